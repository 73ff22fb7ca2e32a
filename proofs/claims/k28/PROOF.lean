import PyProof.Rows.All
import Wide.All
import OpenK.AllK
import Wide.FinOn
import HandS.ForMost
import HandS.HeadHook1
import HandS.HeadHook2
import HandS.Wide
import HandS.IsInst
import HandS.Defaults
import HandS.SortInts
import HandS.TupAny
import HandS.Sort
import PyProof.ListRange
import KE.KStateDown
import HandS.Head0
import HandS.Head1
import HandS.Head2
import HandS.HeadEnd
import PySem.Challenge.RW_counthall_k28_rank_in
set_option Elab.async false
set_option linter.all false
set_option autoImplicit false
set_option maxRecDepth 100000
set_option maxHeartbeats 4000000
/-! FL: plain data (D), values with local objects (T), the two worlds' tie (RelS, SlotsOk, Step). -/
namespace FL
open PySem PySem.Spec PyProof.Rows L2
abbrev Frg := PySem.W.Frag

/-- a value that never changes any more -/
inductive D where
  | non | bl (b : Bool) | int (i : Int) | str (x : Str) | tup (ds : List D) | lst (ds : List D) | obj (c : Str) (fs : List (Str × D)) | scr (ns : List Int) | ty (n : String) | glob (c : Str) | rng (lo hi : Int)
/-- a value: such data, or the local object numbered p -/
inductive T where
  | d (d : D) | own (p : Nat)
/-- a local object: a list, an instance, or one that is data from now on -/
inductive Cell where
  | lst (ts : List T) | ins (c : Str) (fs : List (Str × T)) | frz (d : D)
abbrev Sg := List (Option T)
abbrev Cs := List Cell

mutual
inductive Rep (K : Frg) (F : Hp) : V → D → Prop
  | non : Rep K F .non .non
  | bl (b : Bool) : Rep K F (.bl b) (.bl b)
  | int (i : Int) : Rep K F (.int i) (.int i)
  | str (x : Str) : Rep K F (.str x) (.str x)
  | tup {a : Addr} {vs : List V} {ds : List D} : SqT K F a vs → Reps K F vs ds → Rep K F (.ref a) (.tup ds)
  | lst {a : Addr} {vs : List V} {ds : List D} : F a = some (.lst vs) → Reps K F vs ds → Rep K F (.ref a) (.lst ds)
  | obj {a dx : Addr} {c : Str} {fvs : List (Str × V)} {fs : List (Str × D)} : F a = some (.ins (He.ga K c) dx fvs) → RepF K F fvs fs → Rep K F (.ref a) (.obj c fs)
  | scr {a : Addr} {ns : List Int} : SqL K F a (ns.map V.int) → Rep K F (.ref a) (.scr ns)
  | ty (n : String) : Rep K F (.ty n) (.ty n)
  | glob (c : Str) : Rep K F (.ref (He.ga K c)) (.glob c)
  | rng {a : Addr} {lo hi : Int} : F a = some (.rng lo hi) → Rep K F (.ref a) (.rng lo hi)
inductive Reps (K : Frg) (F : Hp) : List V → List D → Prop
  | nil : Reps K F [] []
  | cons {v : V} {d : D} {vs : List V} {ds : List D} : Rep K F v d → Reps K F vs ds → Reps K F (v :: vs) (d :: ds)
inductive RepF (K : Frg) (F : Hp) : List (Str × V) → List (Str × D) → Prop
  | nil : RepF K F [] []
  | cons {f : Str} {v : V} {d : D} {vs : List (Str × V)} {ds : List (Str × D)} : Rep K F v d → RepF K F vs ds → RepF K F ((f, v) :: vs) ((f, d) :: ds)
end

def RepT (K : Frg) (F : Hp) (ad : List Addr) (v : V) : T → Prop
  | .d d => Rep K F v d
  | .own p => ∃ a, ad[p]? = some a ∧ v = .ref a
abbrev RepTs (K : Frg) (F : Hp) (ad : List Addr) : List V → List T → Prop := Paired fun v t => RepT K F ad v t
abbrev RepTF (K : Frg) (F : Hp) (ad : List Addr) : List (Str × V) → List (Str × T) → Prop := Paired fun p q => p.1 = q.1 ∧ RepT K F ad p.2 q.2
def CellOk (K : Frg) (F : Hp) (ad : List Addr) (H : Hp) (a : Addr) : Cell → Prop
  | .lst ts => F a = none ∧ ∃ vs, H a = some (.lst vs) ∧ RepTs K F ad vs ts
  | .ins c fs => F a = none ∧ ∃ dx fvs, H a = some (.ins (He.ga K c) dx fvs) ∧ RepTF K F ad fvs fs
  | .frz d => Rep K F (.ref a) d ∧ ∃ o, H a = some o
structure RelS (K : Frg) (F : Hp) (ad : List Addr) (S : Cs) (H : Hp) : Prop where
  sub : ∀ b o, F b = some o → H b = some o
  nd : ad.Nodup
  len : ad.length = S.length
  cells : ∀ (p : Nat) (a : Addr) (c : Cell), ad[p]? = some a → S[p]? = some c → CellOk K F ad H a c
def SlotsOk (K : Frg) (F : Hp) (ad : List Addr) (σ : Sg) (τ : L2.St) : Prop :=
  σ.length = τ.length ∧ ∀ (i : Nat) (t : T), σ[i]? = some (some t) → ∃ v, τ[i]? = some (some v) ∧ RepT K F ad v t
structure Step (F : Hp) (ad : List Addr) (H : Hp) (F' : Hp) (ad' : List Addr) (H' : Hp) : Prop where
  fsub : ∀ b o, F b = some o → F' b = some o
  fnew : ∀ b o, F' b = some o → F b = some o ∨ b ∈ ad ∨ H b = none
  adx : ∃ l, ad' = ad ++ l ∧ ∀ a ∈ l, H a = none
  keep : ∀ b o, H b = some o → b ∉ ad → H' b = some o
  alive : ∀ b, H' b = none → H b = none

section
variable {K : Frg} {F F' F'' : Hp} {ad ad' ad'' : List Addr} {S S' : Cs} {H H' H'' : Hp} {v : V}
theorem Step.refl : Step F ad H F ad H := ⟨fun _ _ h => h, fun _ _ h => .inl h, ⟨[], by simp, fun _ h => by simp at h⟩, fun _ _ h _ => h, fun _ h => h⟩
theorem Step.trans (s : Step F ad H F' ad' H') (r : Step F' ad' H' F'' ad'' H'') : Step F ad H F'' ad'' H'' := by
  obtain ⟨l, e, hl⟩ := s.adx
  obtain ⟨l', e', hl'⟩ := r.adx
  have new : ∀ b, b ∈ ad' → b ∈ ad ∨ H b = none := fun b hb => by
    rw [e] at hb
    rcases List.mem_append.mp hb with h | h
    · exact .inl h
    · exact .inr (hl b h)
  refine ⟨fun b o h => r.fsub b o (s.fsub b o h), fun b o h => ?_, ⟨l ++ l', by rw [e', e, List.append_assoc], fun a ha => ?_⟩, fun b o h hn => ?_, fun b h => s.alive b (r.alive b h)⟩
  · rcases r.fnew b o h with h | h | h
    · exact s.fnew b o h
    · exact .inr (new b h)
    · exact .inr (.inr (s.alive b h))
  · rcases List.mem_append.mp ha with h | h
    · exact hl a h
    · exact s.alive a (hl' a h)
  · refine r.keep b o (s.keep b o h hn) fun hb => ?_
    rcases new b hb with h' | h'
    · exact hn h'
    · rw [h'] at h; cases h
theorem SqT.sub (h : ∀ b o, F b = some o → F' b = some o) {a : Addr} {xs : List V} (q : SqT K F a xs) : SqT K F' a xs := by
  rcases q with (q | ⟨o, q⟩) | q
  · exact .inl (.inl (h _ _ q))
  · exact .inl (.inr ⟨o, h _ _ q⟩)
  · exact .inr q
theorem SqL.sub (h : ∀ b o, F b = some o → F' b = some o) {a : Addr} {xs : List V} (q : SqL K F a xs) : SqL K F' a xs := by
  rcases q with (q | ⟨o, q⟩) | q
  · exact .inl (.inl (h _ _ q))
  · exact .inl (.inr ⟨o, h _ _ q⟩)
  · exact .inr q
mutual
theorem Rep.mono (h : ∀ b o, F b = some o → F' b = some o) : ∀ {v : V} {d : D}, Rep K F v d → Rep K F' v d
  | _, _, .non => .non
  | _, _, .bl b => .bl b
  | _, _, .int i => .int i
  | _, _, .str x => .str x
  | _, _, .tup q r => .tup (SqT.sub h q) (Reps.mono h r)
  | _, _, .lst q r => .lst (h _ _ q) (Reps.mono h r)
  | _, _, .obj q r => .obj (h _ _ q) (RepF.mono h r)
  | _, _, .scr q => .scr (SqL.sub h q)
  | _, _, .ty n => .ty n
  | _, _, .glob c => .glob c
  | _, _, .rng q => .rng (h _ _ q)
theorem Reps.mono (h : ∀ b o, F b = some o → F' b = some o) : ∀ {v : List V} {d : List D}, Reps K F v d → Reps K F' v d
  | _, _, .nil => .nil
  | _, _, .cons q r => .cons (Rep.mono h q) (Reps.mono h r)
theorem RepF.mono (h : ∀ b o, F b = some o → F' b = some o) : ∀ {v : List (Str × V)} {d : List (Str × D)}, RepF K F v d → RepF K F' v d
  | _, _, .nil => .nil
  | _, _, .cons q r => .cons (Rep.mono h q) (RepF.mono h r)
end
theorem Reps.length : ∀ {vs : List V} {ds : List D}, Reps K F vs ds → vs.length = ds.length
  | _, _, .nil => rfl
  | _, _, .cons _ r => by simp [Reps.length r]
theorem Reps.get : ∀ {vs : List V} {ds : List D} {i : Nat} {d : D}, Reps K F vs ds → ds[i]? = some d → ∃ v, vs[i]? = some v ∧ Rep K F v d
  | _, _, _, _, .nil, e => by simp at e
  | _, _, 0, _, .cons q _, e => by simp at e; subst e; exact ⟨_, rfl, q⟩
  | _, _, i + 1, d, .cons _ r, e => by
    obtain ⟨v, h1, h2⟩ := Reps.get (i := i) (d := d) r (by simpa using e)
    exact ⟨v, by simpa using h1, h2⟩
theorem Paired.get {α β : Type} {R : α → β → Prop} : ∀ {vs : List α} {ds : List β} {i : Nat} {d : β}, Paired R vs ds → ds[i]? = some d → ∃ v, vs[i]? = some v ∧ R v d
  | _, _, _, _, .nil, e => by simp at e
  | _, _, 0, _, .cons q _, e => by simp at e; subst e; exact ⟨_, rfl, q⟩
  | _, _, i + 1, d, .cons _ r, e => by
    obtain ⟨v, h1, h2⟩ := Paired.get (i := i) (d := d) r (by simpa using e)
    exact ⟨v, by simpa using h1, h2⟩
theorem Reps.ts : ∀ {vs : List V} {ds : List D}, Reps K F vs ds → RepTs K F ad vs (ds.map .d)
  | _, _, .nil => .nil
  | _, _, .cons q r => .cons q (Reps.ts r)
theorem Reps.append : ∀ {vs ws : List V} {ds es : List D}, Reps K F vs ds → Reps K F ws es → Reps K F (vs ++ ws) (ds ++ es)
  | _, _, _, _, .nil, s => s
  | _, _, _, _, .cons r t, s => .cons r (Reps.append t s)
theorem Paired.append {α β : Type} {R : α → β → Prop} : ∀ {vs ws : List α} {ds es : List β}, Paired R vs ds → Paired R ws es → Paired R (vs ++ ws) (ds ++ es)
  | _, _, _, _, .nil, s => s
  | _, _, _, _, .cons r t, s => .cons r (Paired.append t s)
theorem Paired.take {α β : Type} {R : α → β → Prop} : ∀ {vs : List α} {ds : List β} (n : Nat), Paired R vs ds → Paired R (vs.take n) (ds.take n)
  | _, _, 0, _ => .nil
  | _, _, _ + 1, .nil => .nil
  | _, _, n + 1, .cons r t => .cons r (Paired.take n t)
theorem Paired.drop {α β : Type} {R : α → β → Prop} : ∀ {vs : List α} {ds : List β} (n : Nat), Paired R vs ds → Paired R (vs.drop n) (ds.drop n)
  | _, _, 0, r => r
  | _, _, _ + 1, .nil => .nil
  | _, _, n + 1, .cons _ t => Paired.drop n t
theorem Paired.set {α β : Type} {R : α → β → Prop} {x : α} {y : β} (r : R x y) : ∀ {vs : List α} {ds : List β} (n : Nat), Paired R vs ds → Paired R (vs.set n x) (ds.set n y)
  | _, _, _, .nil => .nil
  | _, _, 0, .cons _ t => .cons r t
  | _, _, n + 1, .cons q t => .cons q (Paired.set r n t)
theorem RepT.mono (h : ∀ b o, F b = some o → F' b = some o) {l : List Addr} (t : T) (r : RepT K F ad v t) : RepT K F' (ad ++ l) v t := by
  cases t with
  | d d => exact Rep.mono h r
  | own p =>
    obtain ⟨a, e, r⟩ := r
    exact ⟨a, by rw [List.getElem?_append_left (List.getElem?_eq_some_iff.mp e).1]; exact e, r⟩
theorem RepT.step (s : Step F ad H F' ad' H') {t : T} (r : RepT K F ad v t) : RepT K F' ad' v t := by
  obtain ⟨l, e, _⟩ := s.adx
  rw [e]
  exact RepT.mono s.fsub t r
theorem RepTs.step (s : Step F ad H F' ad' H') {vs : List V} {ts : List T} (r : RepTs K F ad vs ts) : RepTs K F' ad' vs ts := Paired.mapP r fun _ _ q => RepT.step s q
theorem RepTF.step (s : Step F ad H F' ad' H') {vs : List (Str × V)} {ts : List (Str × T)} (r : RepTF K F ad vs ts) : RepTF K F' ad' vs ts := Paired.mapP r fun _ _ q => ⟨q.1, RepT.step s q.2⟩
theorem SlotsOk.step (s : Step F ad H F' ad' H') {σ : Sg} {τ : L2.St} (r : SlotsOk K F ad σ τ) : SlotsOk K F' ad' σ τ :=
  ⟨r.1, fun i t e => let ⟨v, h1, h2⟩ := r.2 i t e; ⟨v, h1, RepT.step s h2⟩⟩
theorem SlotsOk.set {σ : Sg} {τ : L2.St} (r : SlotsOk K F ad σ τ) {t : T} (q : RepT K F ad v t) (i : Nat) : SlotsOk K F ad (σ.set i (some t)) (τ.set i (some v)) := by
  refine ⟨by simp [r.1], fun j u e => ?_⟩
  rw [List.getElem?_set] at e
  rw [List.getElem?_set]
  by_cases hij : i = j
  · subst hij
    rw [if_pos rfl] at e
    rw [if_pos rfl]
    by_cases hl : i < σ.length
    · rw [if_pos hl] at e
      rw [if_pos (r.1 ▸ hl)]
      cases e
      exact ⟨v, rfl, q⟩
    · rw [if_neg hl] at e
      cases e
  · rw [if_neg hij] at e
    rw [if_neg hij]
    exact r.2 j u e
/-- forget slots -/
def forget (is : List Nat) (σ : Sg) : Sg := is.foldl (fun s i => s.set i none) σ
theorem SlotsOk.forget1 {σ : Sg} {τ : L2.St} (r : SlotsOk K F ad σ τ) (i : Nat) : SlotsOk K F ad (σ.set i none) τ := by
  refine ⟨by simp [r.1], fun j u e => ?_⟩
  rw [List.getElem?_set] at e
  by_cases hij : i = j
  · subst hij
    rw [if_pos rfl] at e
    by_cases hl : i < σ.length
    · rw [if_pos hl] at e; cases e
    · rw [if_neg hl] at e; cases e
  · rw [if_neg hij] at e
    exact r.2 j u e
theorem SlotsOk.forget {τ : L2.St} : ∀ {is : List Nat} {σ : Sg}, SlotsOk K F ad σ τ → SlotsOk K F ad (forget is σ) τ
  | [], _, r => r
  | i :: is, σ, r => SlotsOk.forget (is := is) (r.forget1 i)
theorem RelS.cell (r : RelS K F ad S H) {p : Nat} {c : Cell} (e : S[p]? = some c) : ∃ a, ad[p]? = some a ∧ CellOk K F ad H a c := by
  have hl : p < ad.length := by rw [r.len]; exact (List.getElem?_eq_some_iff.mp e).1
  exact ⟨ad[p], List.getElem?_eq_getElem hl, r.cells p _ c (List.getElem?_eq_getElem hl) e⟩
theorem CellOk.there {a : Addr} {c : Cell} (r : CellOk K F ad H a c) : ∃ o, H a = some o := by
  cases c with
  | lst ts => obtain ⟨_, vs, h, _⟩ := r; exact ⟨_, h⟩
  | ins c fs => obtain ⟨_, dx, fvs, h, _⟩ := r; exact ⟨_, h⟩
  | frz d => exact r.2
theorem RelS.there (r : RelS K F ad S H) {a : Addr} (h : a ∈ ad) : ∃ o, H a = some o := by
  obtain ⟨p, hp, e⟩ := List.getElem_of_mem h
  have hl : p < S.length := by rw [← r.len]; exact hp
  exact (r.cells p a _ (by rw [← e]; exact List.getElem?_eq_getElem hp) (List.getElem?_eq_getElem hl)).there
/-- a cell's tie, carried over -/
theorem CellOk.step {a : Addr} {c : Cell} (r : CellOk K F ad H a c) (s : Step F ad H F' ad' H') (h : ∀ o, H a = some o → H' a = some o) (hf : F a = none → F' a = none) : CellOk K F' ad' H' a c := by
  cases c with
  | lst ts => obtain ⟨n, vs, e, q⟩ := r; exact ⟨hf n, vs, h _ e, RepTs.step s q⟩
  | ins c fs => obtain ⟨n, dx, fvs, e, q⟩ := r; exact ⟨hf n, dx, fvs, h _ e, RepTF.step s q⟩
  | frz d => obtain ⟨q, o, e⟩ := r; exact ⟨Rep.mono s.fsub q, o, h _ e⟩
/-- a new object stands at a: local from now on -/
theorem RelS.new (r : RelS K F ad S H) {a : Addr} {o : HO} (hn : H a = none) {c : Cell} (hc : ∀ l, CellOk K F (ad ++ l) (upd H a o) a c) : RelS K F (ad ++ [a]) (S ++ [c]) (upd H a o) ∧ Step F ad H F (ad ++ [a]) (upd H a o) := by
  have st : Step F ad H F (ad ++ [a]) (upd H a o) := by
    refine ⟨fun _ _ h => h, fun _ _ h => .inl h, ⟨[a], rfl, fun b hb => by rw [List.mem_singleton.mp hb]; exact hn⟩, fun b u h _ => ?_, fun b h => ?_⟩
    · rw [upd_ne (ne_of_none h hn)]; exact h
    · by_cases hb : b = a
      · rw [hb]; exact hn
      · rw [upd_ne hb] at h; exact h
  have na : a ∉ ad := fun h => by
    obtain ⟨u, e⟩ := r.there h
    rw [hn] at e; cases e
  refine ⟨⟨fun b u h => ?_, ?_, by simp [r.len], fun p b c' e1 e2 => ?_⟩, st⟩
  · have h' := r.sub b u h
    rw [upd_ne (ne_of_none h' hn)]; exact h'
  · rw [List.nodup_append]
    exact ⟨r.nd, by simp, fun x hx y hy => by rw [List.mem_singleton.mp hy]; exact fun e => na (e ▸ hx)⟩
  · by_cases hp : p < ad.length
    · rw [List.getElem?_append_left hp] at e1
      rw [List.getElem?_append_left (by rw [← r.len]; exact hp)] at e2
      have q := r.cells p b c' e1 e2
      exact q.step st (fun u e => by rw [upd_ne (ne_of_none e hn)]; exact e) fun h => h
    · rw [List.getElem?_append_right (Nat.le_of_not_lt hp)] at e1
      rw [List.getElem?_append_right (by rw [← r.len]; exact Nat.le_of_not_lt hp), ← r.len] at e2
      have e0 : p - ad.length = 0 := by
        have := (List.getElem?_eq_some_iff.mp e1).1
        simp at this
        omega
      rw [e0] at e1 e2
      simp at e1 e2
      subst e1 e2
      exact hc [a]
/-- a new object stands at a: data from now on -/
theorem RelS.newF (r : RelS K F ad S H) {a : Addr} {o : HO} (hn : H a = none) : RelS K (upd F a o) ad S (upd H a o) ∧ Step F ad H (upd F a o) ad (upd H a o) := by
  have na : a ∉ ad := fun h => by
    obtain ⟨u, e⟩ := r.there h
    rw [hn] at e; cases e
  have fa : F a = none := by
    cases q : F a with
    | none => rfl
    | some u => have := r.sub a u q; rw [hn] at this; cases this
  have st : Step F ad H (upd F a o) ad (upd H a o) := by
    refine ⟨fun b u h => by rw [upd_ne (ne_of_none h fa)]; exact h, fun b u h => ?_, ⟨[], by simp, fun _ h => by simp at h⟩, fun b u h _ => by rw [upd_ne (ne_of_none h hn)]; exact h, fun b h => ?_⟩
    · by_cases hb : b = a
      · rw [hb]; exact .inr (.inr hn)
      · rw [upd_ne hb] at h; exact .inl h
    · by_cases hb : b = a
      · rw [hb]; exact hn
      · rw [upd_ne hb] at h; exact h
  refine ⟨⟨fun b u h => ?_, r.nd, r.len, fun p b c e1 e2 => ?_⟩, st⟩
  · by_cases hb : b = a
    · rw [hb, upd_same] at h
      rw [hb, upd_same]; exact h
    · rw [upd_ne hb] at h
      rw [upd_ne hb]; exact r.sub b u h
  · have q := r.cells p b c e1 e2
    have hb : b ≠ a := fun e => na (e ▸ List.mem_of_getElem? e1)
    exact q.step st (fun u e => by rw [upd_ne hb]; exact e) fun h => by rw [upd_ne hb]; exact h
/-- the local object p is changed -/
theorem RelS.write (r : RelS K F ad S H) {p : Nat} {a : Addr} {o : HO} {c c₀ : Cell} (hp : ad[p]? = some a) (h0 : S[p]? = some c₀) (hF : F a = none) (hc : CellOk K F ad (upd H a o) a c) : RelS K F ad (S.set p c) (upd H a o) ∧ Step F ad H F ad (upd H a o) := by
  have ha : a ∈ ad := List.mem_of_getElem? hp
  have st : Step F ad H F ad (upd H a o) := by
    refine ⟨fun _ _ h => h, fun _ _ h => .inl h, ⟨[], by simp, fun _ h => by simp at h⟩, fun b u h hn => ?_, fun b h => ?_⟩
    · rw [upd_ne (fun (e : b = a) => hn (e ▸ ha))]; exact h
    · by_cases hb : b = a
      · rw [hb, upd_same] at h; cases h
      · rw [upd_ne hb] at h; exact h
  refine ⟨⟨fun b u h => ?_, r.nd, by simp [r.len], fun q b c' e1 e2 => ?_⟩, st⟩
  · rw [upd_ne (ne_of_none h hF)]; exact r.sub b u h
  · rw [List.getElem?_set] at e2
    by_cases hq : p = q
    · subst hq
      rw [if_pos rfl, if_pos (List.getElem?_eq_some_iff.mp h0).1] at e2
      cases e2
      rw [hp] at e1
      cases e1
      exact hc
    · rw [if_neg hq] at e2
      have qq := r.cells q b c' e1 e2
      have hb : b ≠ a := fun e => hq (nd_ix r.nd hp (e ▸ e1))
      exact qq.step st (fun u e => by rw [upd_ne hb]; exact e) fun h => h
/-- the local object p becomes data -/
theorem RelS.freeze (r : RelS K F ad S H) {p : Nat} {a : Addr} {o : HO} {d : D} {c₀ : Cell} (hp : ad[p]? = some a) (h0 : S[p]? = some c₀) (hF : F a = none) (hH : H a = some o) (hd : Rep K (upd F a o) (.ref a) d) : RelS K (upd F a o) ad (S.set p (.frz d)) H ∧ Step F ad H (upd F a o) ad H := by
  have ha : a ∈ ad := List.mem_of_getElem? hp
  have st : Step F ad H (upd F a o) ad H := by
    refine ⟨fun b u h => by rw [upd_ne (ne_of_none h hF)]; exact h, fun b u h => ?_, ⟨[], by simp, fun _ h => by simp at h⟩, fun _ _ h _ => h, fun _ h => h⟩
    by_cases hb : b = a
    · rw [hb]; exact .inr (.inl ha)
    · rw [upd_ne hb] at h; exact .inl h
  refine ⟨⟨fun b u h => ?_, r.nd, by simp [r.len], fun q b c' e1 e2 => ?_⟩, st⟩
  · by_cases hb : b = a
    · rw [hb, upd_same] at h
      rw [hb, hH]; exact h
    · rw [upd_ne hb] at h; exact r.sub b u h
  · rw [List.getElem?_set] at e2
    by_cases hq : p = q
    · subst hq
      rw [if_pos rfl, if_pos (List.getElem?_eq_some_iff.mp h0).1] at e2
      cases e2
      rw [hp] at e1
      cases e1
      exact ⟨hd, o, hH⟩
    · rw [if_neg hq] at e2
      have qq := r.cells q b c' e1 e2
      have hb : b ≠ a := fun e => hq (nd_ix r.nd hp (e ▸ e1))
      exact qq.step st (fun u e => e) fun h => by rw [upd_ne hb]; exact h
end
end FL
/-! FL: the functional readings. -/
namespace FL
open PySem PySem.Spec PyProof.Rows L2
abbrev EF := Sg → Cs → Option (T × Cs)
abbrev BF := Sg → Cs → Option (Bool × Cs)
abbrev AF := Sg → Cs → Option (List T × Cs)
inductive Fl where
  | nx | bk | ct | rt (t : T)
abbrev SF := Sg → Cs → Option (Fl × Sg × Cs)

structure Go (K : Frg) (F : Hp) (ad : List Addr) (H F' : Hp) (ad' : List Addr) (H' : Hp) (S' : Cs) : Prop where
  st : Step F ad H F' ad' H'
  rel : RelS K F' ad' S' H'
theorem Go.trans {K : Frg} {F F' F'' : Hp} {ad ad' ad'' : List Addr} {H H' H'' : Hp} {S' S'' : Cs} (a : Go K F ad H F' ad' H' S') (b : Go K F' ad' H' F'' ad'' H'' S'') : Go K F ad H F'' ad'' H'' S'' := ⟨a.st.trans b.st, b.rel⟩
theorem Go.refl {K : Frg} {F : Hp} {ad : List Addr} {H : Hp} {S : Cs} (r : RelS K F ad S H) : Go K F ad H F ad H S := ⟨.refl, r⟩

def tE (K : Frg) (f : EF) : TE := fun τ H Q => ∃ F ad σ S t S', RelS K F ad S H ∧ SlotsOk K F ad σ τ ∧ f σ S = some (t, S') ∧
  ∀ F' ad' H' v, Go K F ad H F' ad' H' S' → RepT K F' ad' v t → Q v H'
def tB (K : Frg) (f : BF) : TT := fun τ H Q => ∃ F ad σ S b S', RelS K F ad S H ∧ SlotsOk K F ad σ τ ∧ f σ S = some (b, S') ∧
  ∀ F' ad' H', Go K F ad H F' ad' H' S' → Q b H'
def tA (K : Frg) (f : AF) : TA := fun τ H Q => ∃ F ad σ S ts S', RelS K F ad S H ∧ SlotsOk K F ad σ τ ∧ f σ S = some (ts, S') ∧
  ∀ F' ad' H' vs, Go K F ad H F' ad' H' S' → RepTs K F' ad' vs ts → Q vs H'
/-- what is wanted behind a statement -/
def Fin (K : Frg) (F : Hp) (ad : List Addr) (H : Hp) (D : Ends) (o : Fl × Sg × Cs) : Prop :=
  match o.1 with
  | .nx => ∀ F' ad' H' τ', Go K F ad H F' ad' H' o.2.2 → SlotsOk K F' ad' o.2.1 τ' → D.nx τ' H'
  | .bk => ∀ F' ad' H' τ', Go K F ad H F' ad' H' o.2.2 → SlotsOk K F' ad' o.2.1 τ' → D.bk τ' H'
  | .ct => ∀ F' ad' H' τ', Go K F ad H F' ad' H' o.2.2 → SlotsOk K F' ad' o.2.1 τ' → D.ct τ' H'
  | .rt t => ∀ F' ad' H' v, Go K F ad H F' ad' H' o.2.2 → RepT K F' ad' v t → D.rt v H'
def tS (K : Frg) (f : SF) : TS := fun D τ H => ∃ F ad σ S o, RelS K F ad S H ∧ SlotsOk K F ad σ τ ∧ f σ S = some o ∧ Fin K F ad H D o
def FE (X : Cx) (e : Expr) (f : EF) : Prop := PE X e (tE X.K f)
def FB (X : Cx) (e : Expr) (f : BF) : Prop := PT X e (tB X.K f)
def FW (X : Cx) (e : Expr) (f : BF) : Prop := PW X e (tB X.K f)
def FA (X : Cx) (es : List Expr) (f : AF) : Prop := PA X es (tA X.K f)
def FS (X : Cx) (st : Stmt) (f : SF) : Prop := PS X st (tS X.K f)
def FSs (X : Cx) (st : List Stmt) (f : SF) : Prop := PSs X st (tS X.K f)
theorem PE.imp {X : Cx} {e : Expr} {t t' : TE} (h : PE X e t) (w : ∀ τ H Q, t' τ H Q → t τ H Q) : PE X e t' := ⟨fun pins s σ H Q I q => h.run pins s σ H Q I (w _ _ _ q)⟩
theorem PT.imp {X : Cx} {e : Expr} {t t' : TT} (h : PT X e t) (w : ∀ τ H Q, t' τ H Q → t τ H Q) : PT X e t' := ⟨fun pins s σ H Q I q => h.run pins s σ H Q I (w _ _ _ q)⟩
theorem PW.imp {X : Cx} {e : Expr} {t t' : TT} (h : PW X e t) (w : ∀ τ H Q, t' τ H Q → t τ H Q) : PW X e t' := ⟨fun wh pins s σ H Q I q => h.run wh pins s σ H Q I (w _ _ _ q)⟩
theorem PA.imp {X : Cx} {e : List Expr} {t t' : TA} (h : PA X e t) (w : ∀ τ H Q, t' τ H Q → t τ H Q) : PA X e t' := ⟨fun pos pins s σ H Q I q => h.run pos pins s σ H Q I (w _ _ _ q)⟩
theorem PS.imp {X : Cx} {e : Stmt} {t t' : TS} (h : PS X e t) (w : ∀ D τ H, t' D τ H → t D τ H) : PS X e t' := ⟨fun pins s σ H Q I q => h.run pins s σ H Q I (w _ _ _ q)⟩
theorem PSs.imp {X : Cx} {e : List Stmt} {t t' : TS} (h : PSs X e t) (w : ∀ D τ H, t' D τ H → t D τ H) : PSs X e t' := ⟨fun pins s σ H Q I q => h.run pins s σ H Q I (w _ _ _ q)⟩
theorem OpR.imp {X : Cx} {f : Value → Value → Sem Value} {r r' : R2} (h : OpR X f r) (w : ∀ x y H Q, r' x y H Q → r x y H Q) : OpR X f r' := fun pins s σ H Q x y v u I rx ry q => h pins s σ H Q x y v u I rx ry (w _ _ _ _ q)

theorem bind_some {α β : Type} {x : Option α} {f : α → Option β} {b : β} (h : x.bind f = some b) : ∃ a, x = some a ∧ f a = some b := by
  cases x with
  | none => cases h
  | some a => exact ⟨a, rfl, h⟩

section
variable {X : Cx}
/-! ### names, constants -/
def cV (i : Nat) : EF := fun σ S => match σ[i]? with
  | some (some t) => some (t, S)
  | _ => none
theorem fv (i : Nat) {x : Str} {pos : Pos} (hN : X.N[i]? = some x := by rfl) (hv : Vis X.env.scope x := by first | exact Or.inl rfl | exact Or.inr (Or.inl rfl) | exact Or.inr (Or.inr rfl)) (hd : (x == ("__debug__" : Str)) = false := by decide)
    (hcd : (x == ("__classdict__" : Str)) = false := by decide) : FE X (.Name x pos) (cV i) := by
  refine PE.imp (pe_var hN hv hd hcd) fun τ H Q ⟨F, ad, σ, S, t, S', r, so, e, k⟩ => ?_
  unfold cV at e
  split at e
  · rename_i u hu
    cases e
    obtain ⟨v, h1, h2⟩ := so.2 i _ hu
    exact ⟨v, h1, k F ad H v (.refl r) h2⟩
  · cases e
def cK (d : D) : EF := fun _ S => some (.d d, S)
theorem fe_K {e : Expr} {v : V} {d : D} (h : PE X e (tC v)) (hd : ∀ K F, Rep K F v d) : FE X e (cK d) :=
  PE.imp h fun τ H Q ⟨F, ad, σ, S, t, S', r, so, e, k⟩ => by
    cases e
    exact k F ad H v (.refl r) (hd _ _)
theorem fe_int {i j pos} : FE X (.Constant (.int i) j pos) (cK (.int i)) := fe_K pe_int fun _ _ => .int i
theorem fe_bl {b j pos} : FE X (.Constant (.bool b) j pos) (cK (.bl b)) := fe_K pe_bl fun _ _ => .bl b
theorem fe_non {j pos} : FE X (.Constant .none j pos) (cK .non) := fe_K pe_non fun _ _ => .non
theorem fe_str {x j pos} : FE X (.Constant (.str x) j pos) (cK (.str x)) := fe_K pe_str fun _ _ => .str x
theorem fe_gint {x : Str} {i : Int} {u : Value} {pos : Pos} (hg : Gl X x) (hm : X.mg x = some u) (r : RelV (.int i) u) (hd : (x == ("__debug__" : Str)) = false := by decide) : FE X (.Name x pos) (cK (.int i)) := fe_K (pe_glob hg hm r hd) fun _ _ => .int i

/-! ### operators of two values -/
abbrev OF := T → T → Cs → Option (T × Cs)
def r2 (K : Frg) (g : OF) : R2 := fun x y H Q => ∃ F ad S tx ty t S', RelS K F ad S H ∧ RepT K F ad x tx ∧ RepT K F ad y ty ∧ g tx ty S = some (t, S') ∧
  ∀ F' ad' H' v, Go K F ad H F' ad' H' S' → RepT K F' ad' v t → Q v H'
def OpF (X : Cx) (f : Value → Value → Sem Value) (g : OF) : Prop := OpR X f (r2 X.K g)
def cBin (g : OF) (fa fb : EF) : EF := fun σ S => (fa σ S).bind fun p => (fb σ p.2).bind fun q => g p.1 q.1 q.2
theorem two {fa fb : EF} {g : OF} {τ : L2.St} {H : Hp} {Q : VK} (h : tE X.K (cBin g fa fb) τ H Q) : tE X.K fa τ H fun x H1 => tE X.K fb τ H1 fun y H2 => r2 X.K g x y H2 Q := by
  obtain ⟨F, ad, σ, S, t, S', r, so, e, k⟩ := h
  obtain ⟨⟨tx, S1⟩, e1, e⟩ := bind_some e
  obtain ⟨⟨ty, S2⟩, e2, e⟩ := bind_some e
  exact ⟨F, ad, σ, S, tx, S1, r, so, e1, fun F1 ad1 H1 v g1 rx => ⟨F1, ad1, σ, S1, ty, S2, g1.rel, so.step g1.st, e2, fun F2 ad2 H2 w g2 ry =>
    ⟨F2, ad2, S2, tx, ty, t, S', g2.rel, rx.step g2.st, ry, e, fun F3 ad3 H3 u g3 ru => k F3 ad3 H3 u ((g1.trans g2).trans g3) ru⟩⟩⟩
variable {a b : Expr} {fa fb : EF} {pos : Pos}
theorem fe_op {op : Operator} {g : OF} (ho : OpF X (binaryOp op) g) (ha : FE X a fa) (hb : FE X b fb) : FE X (.BinOp a op b pos) (cBin g fa fb) :=
  PE.imp (pe_op ho ha hb) fun _ _ _ h => two h
theorem fe_cmp {op : CmpOp} {g : OF} (ho : OpF X (compareOp op) g) (ha : FE X a fa) (hb : FE X b fb) (hm : behindInMarks op b = false) : FE X (.Compare a [op] [b] pos) (cBin g fa fb) :=
  PE.imp (pe_cmpR ho ha hb hm) fun _ _ _ h => two h
/-! ### tests -/
def cB (f : EF) : BF := fun σ S => (f σ S).bind fun p => match p.1 with
  | .d (.bl b) => some (b, p.2)
  | _ => none
theorem RepT.bl {K : Frg} {F : Hp} {ad : List Addr} {v : V} {b : Bool} (r : RepT K F ad v (.d (.bl b))) : v = .bl b := by
  cases (show Rep K F v (.bl b) from r); rfl
theorem RepT.int {K : Frg} {F : Hp} {ad : List Addr} {v : V} {b : Int} (r : RepT K F ad v (.d (.int b))) : v = .int b := by
  cases (show Rep K F v (.int b) from r); rfl
theorem RepT.str {K : Frg} {F : Hp} {ad : List Addr} {v : V} {b : Str} (r : RepT K F ad v (.d (.str b))) : v = .str b := by
  cases (show Rep K F v (.str b) from r); rfl
theorem RepT.non {K : Frg} {F : Hp} {ad : List Addr} {v : V} (r : RepT K F ad v (.d .non)) : v = .non := by
  cases (show Rep K F v .non from r); rfl
theorem toB {f : EF} {τ : L2.St} {H : Hp} {Q : Bool → Hp → Prop} (h : tB X.K (cB f) τ H Q) : tE X.K f τ H fun x H1 => ∃ c, x = .bl c ∧ Q c H1 := by
  obtain ⟨F, ad, σ, S, b, S', r, so, e, k⟩ := h
  obtain ⟨⟨t, S1⟩, e1, e⟩ := bind_some e
  refine ⟨F, ad, σ, S, t, S1, r, so, e1, fun F1 ad1 H1 v g1 rx => ?_⟩
  simp only at e
  split at e
  · cases e
    exact ⟨b, rx.bl, k F1 ad1 H1 g1⟩
  · cases e
theorem fb_cmp {op : CmpOp} {g : OF} (ho : OpF X (compareOp op) g) (ha : FE X a fa) (hb : FE X b fb) (hm : behindInMarks op b = false) : FB X (.Compare a [op] [b] pos) (cB (cBin g fa fb)) :=
  PT.imp (pt_cmpR ho ha hb hm) fun τ H Q h => two (toB h)
theorem fb_val {e : Expr} {f : EF} (h : FE X e f) (he : ∀ whole, isTrue e X.env whole = (do let v ← whole; standAt e.pos; holding [v] (truthy v)) := by intro _; rfl) : FB X e (cB f) :=
  PT.imp (pt_val h he) fun τ H Q h => toB h
def cAnd (f g : BF) : BF := fun σ S => (f σ S).bind fun p => if p.1 = true then g σ p.2 else some (false, p.2)
def cOr (f g : BF) : BF := fun σ S => (f σ S).bind fun p => if p.1 = true then some (true, p.2) else g σ p.2
def cNot (f : BF) : BF := fun σ S => (f σ S).map fun p => (!p.1, p.2)
variable {fA fB : BF} {rest : List Expr}
theorem fw_and1 (ha : FB X a fA) : FW X (.BoolOp .And [a] pos) fA := pw_and1 ha
theorem fw_or1 (ha : FB X a fA) : FW X (.BoolOp .Or [a] pos) fA := pw_or1 ha
theorem fw_and (ha : FB X a fA) (hb : FW X (.BoolOp .And (b :: rest) pos) fB) : FW X (.BoolOp .And (a :: b :: rest) pos) (cAnd fA fB) := by
  refine PW.imp (pw_and ha hb) fun τ H Q ⟨F, ad, σ, S, c, S', r, so, e, k⟩ => ?_
  obtain ⟨⟨c1, S1⟩, e1, e⟩ := bind_some e
  refine ⟨F, ad, σ, S, c1, S1, r, so, e1, fun F1 ad1 H1 g1 => ?_⟩
  cases c1 with
  | false => cases e; exact k F1 ad1 H1 g1
  | true => exact ⟨F1, ad1, σ, S1, c, S', g1.rel, so.step g1.st, e, fun F2 ad2 H2 g2 => k F2 ad2 H2 (g1.trans g2)⟩
theorem fw_or (ha : FB X a fA) (hb : FW X (.BoolOp .Or (b :: rest) pos) fB) : FW X (.BoolOp .Or (a :: b :: rest) pos) (cOr fA fB) := by
  refine PW.imp (pw_or ha hb) fun τ H Q ⟨F, ad, σ, S, c, S', r, so, e, k⟩ => ?_
  obtain ⟨⟨c1, S1⟩, e1, e⟩ := bind_some e
  refine ⟨F, ad, σ, S, c1, S1, r, so, e1, fun F1 ad1 H1 g1 => ?_⟩
  cases c1 with
  | true => cases e; exact k F1 ad1 H1 g1
  | false => exact ⟨F1, ad1, σ, S1, c, S', g1.rel, so.step g1.st, e, fun F2 ad2 H2 g2 => k F2 ad2 H2 (g1.trans g2)⟩
theorem fb_w {e : Expr} (h : FW X e fA) : FB X e fA := L2.PW.pt h
theorem fb_not (ha : FB X a fA) : FB X (.UnaryOp .Not a pos) (cNot fA) := by
  refine PT.imp (pt_not ha) fun τ H Q ⟨F, ad, σ, S, c, S', r, so, e, k⟩ => ?_
  obtain ⟨⟨c1, S1⟩, e1, e⟩ := Option.map_eq_some_iff.mp e
  cases e
  exact ⟨F, ad, σ, S, c1, S1, r, so, e1, fun F1 ad1 H1 g1 => k F1 ad1 H1 g1⟩
/-! ### and, or, not as values of bools; a if t else b -/
def cBV (f : BF) : EF := fun σ S => (f σ S).map fun p => (.d (.bl p.1), p.2)
def cAndV (f g : EF) : EF := fun σ S => (cB f σ S).bind fun p => if p.1 = true then g σ p.2 else some (.d (.bl false), p.2)
def cOrV (f g : EF) : EF := fun σ S => (cB f σ S).bind fun p => if p.1 = true then some (.d (.bl true), p.2) else g σ p.2
theorem fe_one {op} (h : FE X a fa) : FE X (.BoolOp op [a] pos) fa := pe_one h
theorem fe_and (ha : FE X a fa) (hb : FE X (.BoolOp .And (b :: rest) pos) fb) : FE X (.BoolOp .And (a :: b :: rest) pos) (cAndV fa fb) := by
  refine PE.imp (pe_and ha hb) fun τ H Q ⟨F, ad, σ, S, t, S', r, so, e, k⟩ => ?_
  obtain ⟨⟨c1, S1⟩, e1, e⟩ := bind_some e
  refine toB ⟨F, ad, σ, S, c1, S1, r, so, e1, fun F1 ad1 H1 g1 => ?_⟩
  cases c1 with
  | false => cases e; exact k F1 ad1 H1 _ g1 (Rep.bl _)
  | true => exact ⟨F1, ad1, σ, S1, t, S', g1.rel, so.step g1.st, e, fun F2 ad2 H2 v g2 rv => k F2 ad2 H2 v (g1.trans g2) rv⟩
theorem fe_or (ha : FE X a fa) (hb : FE X (.BoolOp .Or (b :: rest) pos) fb) : FE X (.BoolOp .Or (a :: b :: rest) pos) (cOrV fa fb) := by
  refine PE.imp (pe_or ha hb) fun τ H Q ⟨F, ad, σ, S, t, S', r, so, e, k⟩ => ?_
  obtain ⟨⟨c1, S1⟩, e1, e⟩ := bind_some e
  refine toB ⟨F, ad, σ, S, c1, S1, r, so, e1, fun F1 ad1 H1 g1 => ?_⟩
  cases c1 with
  | true => cases e; exact k F1 ad1 H1 _ g1 (Rep.bl _)
  | false => exact ⟨F1, ad1, σ, S1, t, S', g1.rel, so.step g1.st, e, fun F2 ad2 H2 v g2 rv => k F2 ad2 H2 v (g1.trans g2) rv⟩
theorem fe_not (ha : FE X a fa) : FE X (.UnaryOp .Not a pos) (cBV (cNot (cB fa))) := by
  refine PE.imp (pe_not ha) fun τ H Q ⟨F, ad, σ, S, t, S', r, so, e, k⟩ => ?_
  obtain ⟨⟨c2, S2⟩, e2, e⟩ := Option.map_eq_some_iff.mp e
  obtain ⟨⟨c1, S1⟩, e1, e2⟩ := Option.map_eq_some_iff.mp e2
  cases e2
  cases e
  exact toB ⟨F, ad, σ, S, c1, S1, r, so, e1, fun F1 ad1 H1 g1 => k F1 ad1 H1 _ g1 (Rep.bl _)⟩
def cIf (f : BF) (g h : EF) : EF := fun σ S => (f σ S).bind fun p => if p.1 = true then g σ p.2 else h σ p.2
theorem fe_if {c : Expr} (hc : FB X c fA) (ha : FE X a fa) (hb : FE X b fb) : FE X (.IfExp c a b pos) (cIf fA fa fb) := by
  refine PE.imp (pe_ifExp hc ha hb) fun τ H Q ⟨F, ad, σ, S, t, S', r, so, e, k⟩ => ?_
  obtain ⟨⟨c1, S1⟩, e1, e⟩ := bind_some e
  refine ⟨F, ad, σ, S, c1, S1, r, so, e1, fun F1 ad1 H1 g1 => ?_⟩
  cases c1 with
  | true => exact ⟨F1, ad1, σ, S1, t, S', g1.rel, so.step g1.st, e, fun F2 ad2 H2 v g2 rv => k F2 ad2 H2 v (g1.trans g2) rv⟩
  | false => exact ⟨F1, ad1, σ, S1, t, S', g1.rel, so.step g1.st, e, fun F2 ad2 H2 v g2 rv => k F2 ad2 H2 v (g1.trans g2) rv⟩
/-! ### argument lists -/
def aNil : AF := fun _ S => some ([], S)
def aCons (f : EF) (g : AF) : AF := fun σ S => (f σ S).bind fun p => (g σ p.2).map fun q => (p.1 :: q.1, q.2)
variable {e : Expr} {es : List Expr} {fs : AF}
theorem fa_nil : FA X [] aNil := PA.imp pa_nil fun τ H Q ⟨F, ad, σ, S, t, S', r, so, e, k⟩ => by
  cases e
  exact k F ad H [] (.refl r) .nil
theorem fa_cons (ha : FE X e fa) (hr : FA X es fs) (hs : starEach (e :: es) X.env = (false, eval e X.env) :: starEach es X.env := by rfl) : FA X (e :: es) (aCons fa fs) := by
  refine PA.imp (pa_cons ha hr hs) fun τ H Q ⟨F, ad, σ, S, ts, S', r, so, e, k⟩ => ?_
  obtain ⟨⟨tx, S1⟩, e1, e⟩ := bind_some e
  obtain ⟨⟨tr, S2⟩, e2, e⟩ := Option.map_eq_some_iff.mp e
  cases e
  exact ⟨F, ad, σ, S, tx, S1, r, so, e1, fun F1 ad1 H1 v g1 rx => ⟨F1, ad1, σ, S1, tr, S2, g1.rel, so.step g1.st, e2, fun F2 ad2 H2 vs g2 rs => k F2 ad2 H2 (v :: vs) (g1.trans g2) (.cons (rx.step g2.st) rs)⟩⟩

/-! ### data out of local objects -/
/-- each item by f, from the left -/
def mapS {α : Type} (f : T → Cs → Option (D × Cs)) (key : α → T) : List α → Cs → Option (List D × Cs)
  | [], S => some ([], S)
  | a :: l, S => (f (key a) S).bind fun p => (mapS f key l p.2).map fun q => (p.1 :: q.1, q.2)
def isFrz : Option Cell → Bool
  | some (.frz _) => true
  | none => true
  | _ => false
def toD : Nat → T → Cs → Option (D × Cs)
  | _, .d d, S => some (d, S)
  | 0, .own _, _ => none
  | n + 1, .own p, S => match S[p]? with
    | some (.frz d) => some (d, S)
    | some (.lst ts) => (mapS (toD n) id ts S).bind fun q => if isFrz q.2[p]? = true then none else some (.lst q.1, q.2.set p (.frz (.lst q.1)))
    | some (.ins c fs) => (mapS (toD n) (·.2) fs S).bind fun q => if isFrz q.2[p]? = true then none else some (.obj c ((fs.map (·.1)).zip q.1), q.2.set p (.frz (.obj c ((fs.map (·.1)).zip q.1))))
    | none => none
/-- nothing of the machine's heap moves -/
structure Still (K : Frg) (F : Hp) (ad : List Addr) (H F' : Hp) (S' : Cs) : Prop where
  st : Step F ad H F' ad H
  rel : RelS K F' ad S' H
theorem Still.go {K : Frg} {F : Hp} {ad : List Addr} {H F' : Hp} {S' : Cs} (h : Still K F ad H F' S') : Go K F ad H F' ad H S' := ⟨h.st, h.rel⟩
theorem mapS_ok {α : Type} {K : Frg} {f : T → Cs → Option (D × Cs)} {key : α → T}
    (hf : ∀ t S d S' F ad H v, RelS K F ad S H → RepT K F ad v t → f t S = some (d, S') → ∃ F', Still K F ad H F' S' ∧ Rep K F' v d) :
    ∀ (l : List α) (S : Cs) (ds : List D) (S' : Cs) (F : Hp) (ad : List Addr) (H : Hp) (vs : List V), RelS K F ad S H → RepTs K F ad vs (l.map key) → mapS f key l S = some (ds, S') → ∃ F', Still K F ad H F' S' ∧ Reps K F' vs ds
  | [], S, ds, S', F, ad, H, vs, r, q, e => by
    cases e
    cases q
    exact ⟨F, ⟨.refl, r⟩, .nil⟩
  | a :: l, S, ds, S', F, ad, H, vs, r, q, e => by
    obtain ⟨⟨d1, S1⟩, e1, e⟩ := bind_some e
    obtain ⟨⟨dr, S2⟩, e2, e⟩ := Option.map_eq_some_iff.mp e
    cases e
    cases q with
    | cons q1 qr =>
      obtain ⟨F1, g1, p1⟩ := hf _ _ _ _ F ad H _ r q1 e1
      obtain ⟨F2, g2, p2⟩ := mapS_ok hf l S1 dr S2 F1 ad H _ g1.rel (RepTs.step g1.st qr) e2
      exact ⟨F2, ⟨g1.st.trans g2.st, g2.rel⟩, .cons (p1.mono g2.st.fsub) p2⟩
theorem RelS.notF {K : Frg} {F : Hp} {ad : List Addr} {S : Cs} {H : Hp} (r : RelS K F ad S H) {p : Nat} {a : Addr} (hp : ad[p]? = some a) (h : isFrz S[p]? ≠ true) : F a = none ∧ ∃ c, S[p]? = some c := by
  cases q : S[p]? with
  | none => rw [q] at h; exact absurd rfl h
  | some c =>
    rw [q] at h
    have z := r.cells p a c hp q
    cases c with
    | lst ts => exact ⟨z.1, _, rfl⟩
    | ins c fs => exact ⟨z.1, _, rfl⟩
    | frz d => exact absurd rfl h
theorem repF_zip {K : Frg} {F : Hp} {ad : List Addr} : ∀ {fvs : List (Str × V)} {fs : List (Str × T)} {ds : List D}, RepTF K F ad fvs fs → ∀ {F' : Hp}, Reps K F' (fvs.map (·.2)) ds → RepF K F' fvs ((fs.map (·.1)).zip ds)
  | _, _, _, .nil, _, .nil => .nil
  | (f, v) :: fvs, (g, t) :: fs, _, .cons q r, _, .cons q1 r1 => by
    have e : f = g := q.1
    subst e
    exact .cons q1 (repF_zip r r1)
theorem RepTF.vals {K : Frg} {F : Hp} {ad : List Addr} : ∀ {fvs : List (Str × V)} {fs : List (Str × T)}, RepTF K F ad fvs fs → RepTs K F ad (fvs.map (·.2)) (fs.map (·.2))
  | _, _, .nil => .nil
  | _, _, .cons q r => .cons q.2 (RepTF.vals r)
theorem toD_ok {K : Frg} : ∀ (n : Nat) (t : T) (S : Cs) (d : D) (S' : Cs) (F : Hp) (ad : List Addr) (H : Hp) (v : V), RelS K F ad S H → RepT K F ad v t → toD n t S = some (d, S') → ∃ F', Still K F ad H F' S' ∧ Rep K F' v d := by
  intro n
  induction n with
  | zero =>
    intro t S d S' F ad H v r q e
    cases t with
    | d d0 =>
      have e' : some (d0, S) = some (d, S') := by
        unfold toD at e; exact e
      cases e'
      exact ⟨F, ⟨.refl, r⟩, q⟩
    | own p => unfold toD at e; cases e
  | succ n ih =>
    intro t S d S' F ad H v r q e
    cases t with
    | d d0 =>
      have e' : some (d0, S) = some (d, S') := by
        unfold toD at e; exact e
      cases e'
      exact ⟨F, ⟨.refl, r⟩, q⟩
    | own p =>
      obtain ⟨a, hp, rfl⟩ := q
      unfold toD at e
      split at e
      · rename_i d0 h0
        cases e
        exact ⟨F, ⟨.refl, r⟩, (r.cells p a _ hp h0).1⟩
      · rename_i ts h0
        obtain ⟨_, vs, hH, rs⟩ := r.cells p a _ hp h0
        obtain ⟨⟨ds, S1⟩, e1, e⟩ := bind_some e
        obtain ⟨F1, g1, p1⟩ := mapS_ok (K := K) ih ts S ds S1 F ad H vs r (by rw [List.map_id]; exact rs) e1
        simp only at e
        split at e
        · cases e
        · rename_i hz
          cases e
          obtain ⟨nF, c1, hc1⟩ := g1.rel.notF hp hz
          have hd : Rep K (upd F1 a (.lst vs)) (.ref a) (.lst ds) := .lst upd_same (p1.mono fun b o h => by rw [upd_ne (ne_of_none h nF)]; exact h)
          obtain ⟨r2, s2⟩ := g1.rel.freeze hp hc1 nF hH hd
          exact ⟨_, ⟨g1.st.trans s2, r2⟩, hd⟩
      · rename_i c fs h0
        obtain ⟨_, dx, fvs, hH, rs⟩ := r.cells p a _ hp h0
        obtain ⟨⟨ds, S1⟩, e1, e⟩ := bind_some e
        obtain ⟨F1, g1, p1⟩ := mapS_ok (K := K) ih fs S ds S1 F ad H (fvs.map (·.2)) r rs.vals e1
        simp only at e
        split at e
        · cases e
        · rename_i hz
          cases e
          obtain ⟨nF, c1, hc1⟩ := g1.rel.notF hp hz
          have hd : Rep K (upd F1 a (.ins (He.ga K c) dx fvs)) (.ref a) (.obj c ((fs.map (·.1)).zip ds)) := .obj upd_same (repF_zip rs (p1.mono fun b o h => by rw [upd_ne (ne_of_none h nF)]; exact h))
          obtain ⟨r2, s2⟩ := g1.rel.freeze hp hc1 nF hH hd
          exact ⟨_, ⟨g1.st.trans s2, r2⟩, hd⟩
      · cases e
/-- the depth that is looked into -/
abbrev dep : Nat := 4
def toDs (ts : List T) (S : Cs) : Option (List D × Cs) := mapS (toD dep) id ts S
theorem toDs_ok {K : Frg} {ts : List T} {S : Cs} {ds : List D} {S' : Cs} {F : Hp} {ad : List Addr} {H : Hp} {vs : List V} (r : RelS K F ad S H) (q : RepTs K F ad vs ts) (e : toDs ts S = some (ds, S')) : ∃ F', Still K F ad H F' S' ∧ Reps K F' vs ds :=
  mapS_ok (toD_ok dep) ts S ds S' F ad H vs r (by rw [List.map_id]; exact q) e

/-! ### displays -/
/-- (a, b, ..): data -/
def cTup (f : AF) : EF := fun σ S => (f σ S).bind fun p => if p.1.length ≤ sizeLine then (toDs p.1 p.2).map fun q => (.d (.tup q.1), q.2) else none
theorem fe_tup {x1} (h : FA X es fs) : FE X (.Tuple es x1 pos) (cTup fs) := by
  refine PE.imp (pe_tup h) fun τ H Q ⟨F, ad, σ, S, t, S', r, so, e, k⟩ => ?_
  obtain ⟨⟨ts, S1⟩, e1, e⟩ := bind_some e
  refine ⟨F, ad, σ, S, ts, S1, r, so, e1, fun F1 ad1 H1 vs g1 rs => ?_⟩
  simp only at e
  split at e
  · rename_i hz
    obtain ⟨⟨ds, S2⟩, e2, e⟩ := Option.map_eq_some_iff.mp e
    cases e
    refine ⟨by rw [Paired.length rs]; exact hz, fun p hp => ?_⟩
    obtain ⟨F2, g2, rd⟩ := toDs_ok g1.rel rs e2
    obtain ⟨r3, s3⟩ := g2.rel.newF (o := .tup vs) hp
    exact k _ ad1 _ _ ⟨g1.st.trans (g2.st.trans s3), r3⟩ (Rep.tup (.of upd_same) (rd.mono s3.fsub))
  · cases e
/-- [a, b, ..]: a local object -/
def cLst (f : AF) : EF := fun σ S => (f σ S).bind fun p => if p.1.length ≤ sizeLine then some (.own p.2.length, p.2 ++ [.lst p.1]) else none
theorem RelS.fresh {K : Frg} {F : Hp} {ad : List Addr} {S : Cs} {H : Hp} (r : RelS K F ad S H) {a : Addr} (hn : H a = none) : F a = none := by
  cases q : F a with
  | none => rfl
  | some u => have := r.sub a u q; rw [hn] at this; cases this
theorem new_lst {K : Frg} {F : Hp} {ad : List Addr} {S : Cs} {H : Hp} {a : Addr} {vs : List V} {ts : List T} (r : RelS K F ad S H) (hn : H a = none) (q : RepTs K F ad vs ts) :
    Go K F ad H F (ad ++ [a]) (upd H a (.lst vs)) (S ++ [.lst ts]) ∧ RepT K F (ad ++ [a]) (.ref a) (.own S.length) := by
  obtain ⟨r2, s2⟩ := r.new (o := .lst vs) hn (c := .lst ts) fun l => ⟨r.fresh hn, vs, upd_same, Paired.mapP q fun _ t z => RepT.mono (fun _ _ h => h) t z⟩
  exact ⟨⟨s2, r2⟩, a, by rw [← r.len, List.getElem?_append_right (Nat.le_refl _)]; simp, rfl⟩
theorem fe_lst (h : FA X es fs) : FE X (.List es pos) (cLst fs) := by
  refine PE.imp (pe_lst h) fun τ H Q ⟨F, ad, σ, S, t, S', r, so, e, k⟩ => ?_
  obtain ⟨⟨ts, S1⟩, e1, e⟩ := bind_some e
  refine ⟨F, ad, σ, S, ts, S1, r, so, e1, fun F1 ad1 H1 vs g1 rs => ?_⟩
  simp only at e
  split at e
  · rename_i hz
    cases e
    refine ⟨by rw [Paired.length rs]; exact hz, fun p hp => ?_⟩
    obtain ⟨g2, q2⟩ := new_lst g1.rel hp rs
    exact k _ _ _ _ (g1.trans g2) q2
  · cases e
end
end FL
/-! FL: operators, subscripts, calls. -/
namespace FL
open PySem PySem.Spec PyProof.Rows L2
def asI : T → Option Int
  | .d (.int i) => some i
  | _ => none
def asS : T → Option Str
  | .d (.str i) => some i
  | _ => none
def deref (t : T) (S : Cs) : T := match t with
  | .own p => (match S[p]? with
    | some (.frz d) => .d d
    | _ => .own p)
  | t => t
/-- what a sequence holds; true: a tuple -/
def seqOf (t : T) (S : Cs) : Option (Bool × List T) := match deref t S with
  | .d (.tup ds) => some (true, ds.map .d)
  | .d (.lst ds) => some (false, ds.map .d)
  | .d (.scr ns) => some (false, ns.map fun i => .d (.int i))
  | .own p => (match S[p]? with
    | some (.lst ts) => some (false, ts)
    | _ => none)
  | _ => none
/-- what a list (not the script) holds -/
def lstOf (t : T) (S : Cs) : Option (List T) := match deref t S with
  | .d (.lst ds) => some (ds.map .d)
  | .own p => (match S[p]? with
    | some (.lst ts) => some ts
    | _ => none)
  | _ => none
section
variable {K : Frg} {F : Hp} {ad : List Addr} {S : Cs} {H : Hp} {v : V}
theorem asI_ok {t : T} {i : Int} (e : asI t = some i) (r : RepT K F ad v t) : v = .int i := by
  unfold asI at e
  split at e
  · cases e; exact r.int
  · cases e
theorem asS_ok {t : T} {i : Str} (e : asS t = some i) (r : RepT K F ad v t) : v = .str i := by
  unfold asS at e
  split at e
  · cases e; exact r.str
  · cases e
theorem deref_ok {t : T} (g : RelS K F ad S H) (r : RepT K F ad v t) : RepT K F ad v (deref t S) := by
  cases t with
  | d d => exact r
  | own p =>
    obtain ⟨a, hp, rfl⟩ := r
    unfold deref
    simp only
    split
    · rename_i d h0
      exact (g.cells p a _ hp h0).1
    · exact ⟨a, hp, rfl⟩
theorem scr_ts : ∀ (ns : List Int), RepTs K F ad (ns.map V.int) (ns.map fun i => T.d (.int i))
  | [] => .nil
  | i :: ns => .cons (Rep.int i) (scr_ts ns)
theorem seqOf_ok {t : T} {b : Bool} {ts : List T} (g : RelS K F ad S H) (r : RepT K F ad v t) (e : seqOf t S = some (b, ts)) :
    ∃ a vs, v = .ref a ∧ (b = true → SqT K F a vs) ∧ (b = true → SqT K H a vs) ∧ (b = false → SqL K H a vs) ∧ RepTs K F ad vs ts := by
  have r := deref_ok g r
  unfold seqOf at e
  split at e
  · rename_i ds h0
    rw [h0] at r
    cases e
    cases (show Rep K F v (.tup ds) from r) with
    | tup q rs => exact ⟨_, _, rfl, fun _ => q, fun _ => SqT.sub g.sub q, fun z => (Bool.noConfusion z), rs.ts⟩
  · rename_i ds h0
    rw [h0] at r
    cases e
    cases (show Rep K F v (.lst ds) from r) with
    | lst q rs => exact ⟨_, _, rfl, fun z => (Bool.noConfusion z), fun z => (Bool.noConfusion z), fun _ => .of (g.sub _ _ q), rs.ts⟩
  · rename_i ds h0
    rw [h0] at r
    cases e
    cases (show Rep K F v (.scr ds) from r) with
    | scr q => exact ⟨_, _, rfl, fun z => (Bool.noConfusion z), fun z => (Bool.noConfusion z), fun _ => SqL.sub g.sub q, scr_ts ds⟩
  · rename_i p h0
    rw [h0] at r
    obtain ⟨a, hp, rfl⟩ := r
    split at e
    · rename_i us h1
      cases e
      obtain ⟨_, vs, hH, rs⟩ := g.cells p a _ hp h1
      exact ⟨a, vs, rfl, fun z => (Bool.noConfusion z), fun z => (Bool.noConfusion z), fun _ => .of hH, rs⟩
    · cases e
  · cases e
theorem lstOf_ok {t : T} {ts : List T} (g : RelS K F ad S H) (r : RepT K F ad v t) (e : lstOf t S = some ts) :
    ∃ a vs, v = .ref a ∧ H a = some (.lst vs) ∧ RepTs K F ad vs ts := by
  have r := deref_ok g r
  unfold lstOf at e
  split at e
  · rename_i ds h0
    rw [h0] at r
    cases e
    cases (show Rep K F v (.lst ds) from r) with
    | lst q rs => exact ⟨_, _, rfl, g.sub _ _ q, rs.ts⟩
  · rename_i p h0
    rw [h0] at r
    obtain ⟨a, hp, rfl⟩ := r
    split at e
    · rename_i us h1
      cases e
      obtain ⟨_, vs, hH, rs⟩ := g.cells p a _ hp h1
      exact ⟨a, vs, rfl, hH, rs⟩
    · cases e
  · cases e
end
section
variable {X : Cx}
/-! ### ints -/
def oI (C : Int → Int → Prop) [∀ i j, Decidable (C i j)] (g : Int → Int → D) : OF := fun x y S => match asI x, asI y with
  | some i, some j => if C i j then some (.d (g i j), S) else none
  | _, _ => none
def oI0 (g : Int → Int → D) : OF := fun x y S => match asI x, asI y with
  | some i, some j => some (.d (g i j), S)
  | _, _ => none
theorem opF_I {f : Value → Value → Sem Value} {C : Int → Int → Prop} [∀ i j, Decidable (C i j)] {gv : Int → Int → V} {g : Int → Int → D} (h : OpR X f (rI C gv)) (hg : ∀ i j K F, Rep K F (gv i j) (g i j)) : OpF X f (oI C g) := by
  refine OpR.imp h fun x y H Q ⟨F, ad, S, tx, ty, t, S', r, rx, ry, e, k⟩ => ?_
  unfold oI at e
  split at e
  · rename_i i j e1 e2
    split at e
    · rename_i hc
      cases e
      exact ⟨i, j, asI_ok e1 rx, asI_ok e2 ry, hc, k F ad H _ (.refl r) (hg _ _ _ _)⟩
    · cases e
  · cases e
theorem opF_I0 {f : Value → Value → Sem Value} {gv : Int → Int → V} {g : Int → Int → D} (h : OpR X f (rI0 gv)) (hg : ∀ i j K F, Rep K F (gv i j) (g i j)) : OpF X f (oI0 g) := by
  refine OpR.imp h fun x y H Q ⟨F, ad, S, tx, ty, t, S', r, rx, ry, e, k⟩ => ?_
  unfold oI0 at e
  split at e
  · rename_i i j e1 e2
    cases e
    exact ⟨i, j, asI_ok e1 rx, asI_ok e2 ry, k F ad H _ (.refl r) (hg _ _ _ _)⟩
  · cases e
instance (i j : Int) : Decidable (CMul i j) := by unfold CMul; infer_instance
instance (i j : Int) : Decidable (CPow i j) := by unfold CPow; infer_instance
instance (i j : Int) : Decidable (CDivW i j) := by unfold CDivW; infer_instance
abbrev oSub : OF := oI0 fun i j => .int (i - j)
abbrev oMod : OF := oI (fun _ j => 0 < j) fun i j => .int (i % j)
abbrev oDiv : OF := oI CDivW fun i j => .int (i / j)
abbrev oPow : OF := oI CPow fun i j => .int (i ^ j.toNat)
abbrev oLt : OF := oI0 fun i j => .bl (decide (i < j))
abbrev oLe : OF := oI0 fun i j => .bl (decide (i ≤ j))
abbrev oGt : OF := oI0 fun i j => .bl (decide (j < i))
abbrev oGe : OF := oI0 fun i j => .bl (decide (j ≤ i))
theorem f_sub : OpF X (binaryOp .Sub) oSub := opF_I0 op_sub fun _ _ _ _ => .int _
theorem f_mod : OpF X (binaryOp .Mod) oMod := opF_I op_mod fun _ _ _ _ => .int _
theorem f_div : OpF X (binaryOp .FloorDiv) oDiv := opF_I op_fdivW fun _ _ _ _ => .int _
theorem f_pow : OpF X (binaryOp .Pow) oPow := opF_I op_pow fun _ _ _ _ => .int _
theorem f_lt : OpF X (compareOp .Lt) oLt := opF_I0 op_lt fun _ _ _ _ => .bl _
theorem f_le : OpF X (compareOp .LtE) oLe := opF_I0 op_le fun _ _ _ _ => .bl _
theorem f_gt : OpF X (compareOp .Gt) oGt := opF_I0 op_gt fun _ _ _ _ => .bl _
theorem f_ge : OpF X (compareOp .GtE) oGe := opF_I0 op_ge fun _ _ _ _ => .bl _
/-! ### + and * -/
def oCat : OF := fun x y S => match lstOf x S, lstOf y S with
  | some a, some b => if a.length + b.length ≤ sizeLine then some (.own S.length, S ++ [.lst (a ++ b)]) else none
  | _, _ => none
theorem f_cat : OpF X (binaryOp .Add) oCat := by
  refine OpR.imp op_cat fun x y H Q ⟨F, ad, S, tx, ty, t, S', r, rx, ry, e, k⟩ => ?_
  unfold oCat at e
  split at e
  · rename_i us ws e1 e2
    obtain ⟨a, vs, rfl, ha, qa⟩ := lstOf_ok r rx e1
    obtain ⟨b, zs, rfl, hb, qb⟩ := lstOf_ok r ry e2
    split at e
    · rename_i hz
      cases e
      refine ⟨a, b, vs, zs, rfl, rfl, ha, hb, by rw [Paired.length qa, Paired.length qb]; exact hz, fun p hp => ?_⟩
      obtain ⟨g, q⟩ := new_lst r hp (Paired.append qa qb)
      exact k _ _ _ _ g q
    · cases e
  · cases e
def oCatS : OF := fun x y S => match asS x, asS y with
  | some a, some b => if a.length + b.length ≤ sizeLine then some (.d (.str (a ++ b)), S) else none
  | _, _ => none
theorem f_catS : OpF X (binaryOp .Add) oCatS := by
  refine OpR.imp op_add_str fun x y H Q ⟨F, ad, S, tx, ty, t, S', r, rx, ry, e, k⟩ => ?_
  unfold oCatS at e
  split at e
  · rename_i us ws e1 e2
    split at e
    · rename_i hz
      cases e
      exact ⟨us, ws, asS_ok e1 rx, asS_ok e2 ry, hz, k F ad H _ (.refl r) (Rep.str _)⟩
    · cases e
  · cases e
def asT (t : T) (S : Cs) : Option (List D) := match deref t S with
  | .d (.tup ds) => some ds
  | _ => none
theorem asT_ok {K : Frg} {F : Hp} {ad : List Addr} {S : Cs} {H : Hp} {v : V} {t : T} {ds : List D} (g : RelS K F ad S H) (r : RepT K F ad v t) (e : asT t S = some ds) : ∃ a vs, v = .ref a ∧ SqT K F a vs ∧ Reps K F vs ds := by
  have r := deref_ok g r
  unfold asT at e
  split at e
  · rename_i es h0
    rw [h0] at r
    cases e
    cases (show Rep K F v (.tup ds) from r) with
    | tup q rs => exact ⟨_, _, rfl, q, rs⟩
  · cases e
def oCatT : OF := fun x y S => match asT x S, asT y S with
  | some a, some b => if a ≠ [] ∧ a.length + b.length ≤ sizeLine then some (.d (.tup (a ++ b)), S) else none
  | _, _ => none
theorem Reps.nil_iff {K : Frg} {F : Hp} {vs : List V} {ds : List D} (r : Reps K F vs ds) : vs = [] ↔ ds = [] := by
  cases r <;> simp
theorem f_catT : OpF X (binaryOp .Add) oCatT := by
  refine OpR.imp op_catT fun x y H Q ⟨F, ad, S, tx, ty, t, S', r, rx, ry, e, k⟩ => ?_
  unfold oCatT at e
  split at e
  · rename_i us ws e1 e2
    obtain ⟨a, vs, rfl, ha, qa⟩ := asT_ok r rx e1
    obtain ⟨b, zs, rfl, hb, qb⟩ := asT_ok r ry e2
    split at e
    · rename_i hz
      cases e
      refine ⟨a, b, vs, zs, rfl, rfl, SqT.sub r.sub ha, SqT.sub r.sub hb, fun z => hz.1 (qa.nil_iff.mp z), by rw [qa.length, qb.length]; exact hz.2, fun z => ?_, fun z p hp => ?_⟩
      · refine k F ad H _ (.refl r) (Rep.tup ha ?_)
        have z2 := qb.nil_iff.mp z
        rw [z2, List.append_nil]
        exact qa
      · obtain ⟨r3, s3⟩ := r.newF (o := .tup (vs ++ zs)) hp
        exact k _ ad _ _ ⟨s3, r3⟩ (Rep.tup (.of upd_same) ((Reps.append qa qb).mono s3.fsub))
    · cases e
  · cases e
def oOr (f g : OF) : OF := fun x y S => match f x y S with
  | some z => some z
  | none => g x y S
theorem OpF.or {f : Value → Value → Sem Value} {g g' : OF} (h : OpF X f g) (h' : OpF X f g') : OpF X f (oOr g g') := by
  refine OpR.imp (OpR.or h h') fun x y H Q ⟨F, ad, S, tx, ty, t, S', r, rx, ry, e, k⟩ => ?_
  unfold oOr at e
  split at e
  · rename_i z e1
    cases e
    exact .inl ⟨F, ad, S, tx, ty, t, S', r, rx, ry, e1, k⟩
  · exact .inr ⟨F, ad, S, tx, ty, t, S', r, rx, ry, e, k⟩
abbrev oAddI : OF := oI0 fun i j => .int (i + j)
abbrev oAdd : OF := oOr oAddI (oOr oCat (oOr oCatT oCatS))
theorem f_add : OpF X (binaryOp .Add) oAdd := (opF_I0 op_add fun _ _ _ _ => .int _).or (f_cat.or (f_catT.or f_catS))
theorem if_addI : OpF X (inplaceOp .Add) oAddI := opF_I0 iop_add fun _ _ _ _ => .int _
theorem if_subI : OpF X (inplaceOp .Sub) oSub := opF_I0 iop_sub fun _ _ _ _ => .int _
abbrev oMulI : OF := oI CMul fun i j => .int (i * j)
def oRep : OF := fun x y S => match lstOf x S, asI y with
  | some a, some k => if -(2 ^ 63) ≤ k ∧ k < 2 ^ 63 ∧ a.length * k.toNat ≤ sizeLine then some (.own S.length, S ++ [.lst (List.replicate k.toNat a).flatten]) else none
  | _, _ => none
theorem Paired.rep {α β : Type} {R : α → β → Prop} {vs : List α} {ds : List β} (r : Paired R vs ds) : ∀ n : Nat, Paired R (List.replicate n vs).flatten (List.replicate n ds).flatten
  | 0 => .nil
  | n + 1 => by
    rw [List.replicate_succ, List.replicate_succ, List.flatten_cons, List.flatten_cons]
    exact Paired.append r (Paired.rep r n)
theorem f_rep : OpF X (binaryOp .Mult) oRep := by
  refine OpR.imp op_rep fun x y H Q ⟨F, ad, S, tx, ty, t, S', r, rx, ry, e, k⟩ => ?_
  unfold oRep at e
  split at e
  · rename_i us i e1 e2
    obtain ⟨a, vs, rfl, ha, qa⟩ := lstOf_ok r rx e1
    split at e
    · rename_i hz
      cases e
      refine ⟨a, i, vs, rfl, asI_ok e2 ry, ha, hz.1, hz.2.1, by rw [Paired.length qa]; exact hz.2.2, fun p hp => ?_⟩
      obtain ⟨g, q⟩ := new_lst r hp (Paired.rep qa i.toNat)
      exact k _ _ _ _ g q
    · cases e
  · cases e
abbrev oMul : OF := oOr oMulI oRep
theorem f_mul : OpF X (binaryOp .Mult) oMul := (opF_I op_mul fun _ _ _ _ => .int _).or f_rep
/-! ### == -/
mutual
def pyD : D → Option PyData
  | .non => some .none
  | .bl b => some (.bool b)
  | .int i => some (.int i)
  | .str x => some (.str x)
  | .tup ds => (pyDs ds).map .tuple
  | .lst ds => (pyDs ds).map .list
  | .obj _ _ => none
  | .scr _ => none
  | .ty _ => none
  | .glob _ => none
  | .rng _ _ => none
def pyDs : List D → Option (List PyData)
  | [] => some []
  | d :: ds => (pyD d).bind fun p => (pyDs ds).map fun q => p :: q
end
mutual
theorem pyD_ok {K : Frg} {F H : Hp} (h : ∀ b o, F b = some o → H b = some o) : ∀ {v : V} {d : D} {p : PyData}, Rep K F v d → pyD d = some p → Dp K H v p
  | _, _, _, .non, e => by unfold pyD at e; cases e; exact .non
  | _, _, _, .bl b, e => by unfold pyD at e; cases e; exact .bl b
  | _, _, _, .int i, e => by unfold pyD at e; cases e; exact .int i
  | _, _, _, .str x, e => by unfold pyD at e; cases e; exact .str x
  | _, _, _, .tup q r, e => by
    unfold pyD at e
    obtain ⟨ps, e1, e⟩ := Option.map_eq_some_iff.mp e
    cases e
    exact   .tup (SqT.sub h q) (pyDs_ok h r e1)
  | _, _, _, .lst q r, e => by
    unfold pyD at e
    obtain ⟨ps, e1, e⟩ := Option.map_eq_some_iff.mp e
    cases e
    exact .lst (.of (h _ _ q)) (pyDs_ok h r e1)
  | _, _, _, .obj q r, e => by unfold pyD at e; cases e
  | _, _, _, .scr q, e => by unfold pyD at e; cases e
  | _, _, _, .ty n, e => by unfold pyD at e; cases e
  | _, _, _, .glob n, e => by unfold pyD at e; cases e
  | _, _, _, .rng n, e => by unfold pyD at e; cases e
theorem pyDs_ok {K : Frg} {F H : Hp} (h : ∀ b o, F b = some o → H b = some o) : ∀ {vs : List V} {ds : List D} {ps : List PyData}, Reps K F vs ds → pyDs ds = some ps → DpAll K H vs ps
  | _, _, _, .nil, e => by unfold pyDs at e; cases e; exact .nil
  | _, _, _, .cons q r, e => by
    unfold pyDs at e
    obtain ⟨p1, e1, e⟩ := bind_some e
    obtain ⟨pr, e2, e⟩ := Option.map_eq_some_iff.mp e
    cases e
    exact .cons (pyD_ok h q e1) (pyDs_ok h r e2)
end
def mapO {α : Type} (f : T → Option α) : List T → Option (List α)
  | [] => some []
  | t :: ts => (f t).bind fun a => (mapO f ts).map fun l => a :: l
def pyT : Nat → Cs → T → Option PyData
  | _, _, .d d => pyD d
  | 0, _, .own _ => none
  | n + 1, S, .own p => match S[p]? with
    | some (.frz d) => pyD d
    | some (.lst ts) => (mapO (pyT n S) ts).map .list
    | _ => none
theorem mapO_ok {K : Frg} {F : Hp} {ad : List Addr} {S : Cs} {H : Hp} {f : T → Option PyData} (hf : ∀ t v p, RepT K F ad v t → f t = some p → Dp K H v p) : ∀ {vs : List V} {ts : List T} {ps : List PyData}, RepTs K F ad vs ts → mapO f ts = some ps → DpAll K H vs ps
  | _, _, _, .nil, e => by unfold mapO at e; cases e; exact .nil
  | _, _, _, .cons q r, e => by
    unfold mapO at e
    obtain ⟨p1, e1, e⟩ := bind_some e
    obtain ⟨pr, e2, e⟩ := Option.map_eq_some_iff.mp e
    cases e
    exact .cons (hf _ _ _ q e1) (mapO_ok (S := S) hf r e2)
theorem pyT_ok {K : Frg} {F : Hp} {ad : List Addr} {S : Cs} {H : Hp} (g : RelS K F ad S H) : ∀ (n : Nat) (t : T) (v : V) (p : PyData), RepT K F ad v t → pyT n S t = some p → Dp K H v p := by
  intro n
  induction n with
  | zero =>
    intro t v p r e
    cases t with
    | d d => exact pyD_ok g.sub r (by unfold pyT at e; exact e)
    | own q => unfold pyT at e; cases e
  | succ n ih =>
    intro t v p r e
    cases t with
    | d d => exact pyD_ok g.sub r (by unfold pyT at e; exact e)
    | own q =>
      obtain ⟨a, hp, rfl⟩ := r
      unfold pyT at e
      split at e
      · rename_i d h0
        exact pyD_ok g.sub (g.cells q a _ hp h0).1 e
      · rename_i ts h0
        obtain ⟨ps, e1, e⟩ := Option.map_eq_some_iff.mp e
        cases e
        obtain ⟨_, vs, hH, rs⟩ := g.cells q a _ hp h0
        exact .lst (.of hH) (mapO_ok (S := S) ih rs e1)
      · cases e
/-- == of data at any depth -/
def eqT (x y : T) (S : Cs) : Option Bool := match pyT dep S x, pyT dep S y with
  | some p, some q => if SeqAt.shaped p = true ∧ SeqAt.shaped q = true then some (PyData.eqv p q) else none
  | _, _ => none
def oEq : OF := fun x y S => (eqT x y S).map fun b => (.d (.bl b), S)
def oNe : OF := fun x y S => (eqT x y S).map fun b => (.d (.bl (!b)), S)
theorem f_eq (hu : X.A.units + 64 < cLine) : OpF X (compareOp .Eq) oEq := by
  refine OpR.imp (op_eqD hu) fun x y H Q ⟨F, ad, S, tx, ty, t, S', r, rx, ry, e, k⟩ => ?_
  obtain ⟨b, e1, e⟩ := Option.map_eq_some_iff.mp e
  cases e
  unfold eqT at e1
  split at e1
  · rename_i p q ep eq
    split at e1
    · rename_i hs
      cases e1
      exact ⟨p, q, pyT_ok r _ _ _ _ rx ep, pyT_ok r _ _ _ _ ry eq, hs.1, hs.2, k F ad H _ (.refl r) (Rep.bl _)⟩
    · cases e1
  · cases e1
theorem f_ne (hu : X.A.units + 64 < cLine) : OpF X (compareOp .NotEq) oNe := by
  refine OpR.imp (op_neD hu) fun x y H Q ⟨F, ad, S, tx, ty, t, S', r, rx, ry, e, k⟩ => ?_
  obtain ⟨b, e1, e⟩ := Option.map_eq_some_iff.mp e
  cases e
  unfold eqT at e1
  split at e1
  · rename_i p q ep eq
    split at e1
    · rename_i hs
      cases e1
      exact ⟨p, q, pyT_ok r _ _ _ _ rx ep, pyT_ok r _ _ _ _ ry eq, hs.1, hs.2, k F ad H _ (.refl r) (Rep.bl _)⟩
    · cases e1
  · cases e1
/-! ### is None -/
def isNone : T → Bool
  | .d .non => true
  | _ => false
theorem isNone_ok {K : Frg} {F : Hp} {ad : List Addr} {v : V} {t : T} (r : RepT K F ad v t) : decide (v = .non) = isNone t := by
  cases t with
  | own p => obtain ⟨a, _, rfl⟩ := r; rfl
  | d d => cases (show Rep K F v d from r) <;> rfl
def oIs : OF := fun x y S => if isNone y = true then some (.d (.bl (isNone x)), S) else none
def oIsN : OF := fun x y S => if isNone y = true then some (.d (.bl (!isNone x)), S) else none
theorem f_is : OpF X (compareOp .Is) oIs := by
  refine OpR.imp op_isN fun x y H Q ⟨F, ad, S, tx, ty, t, S', r, rx, ry, e, k⟩ => ?_
  unfold oIs at e
  split at e
  · rename_i hn
    cases e
    refine ⟨of_decide_eq_true ((isNone_ok ry).trans hn), ?_⟩
    rw [isNone_ok rx]
    exact k F ad H _ (.refl r) (Rep.bl _)
  · cases e
theorem f_isN : OpF X (compareOp .IsNot) oIsN := by
  refine OpR.imp op_notN fun x y H Q ⟨F, ad, S, tx, ty, t, S', r, rx, ry, e, k⟩ => ?_
  unfold oIsN at e
  split at e
  · rename_i hn
    cases e
    refine ⟨of_decide_eq_true ((isNone_ok ry).trans hn), ?_⟩
    rw [isNone_ok rx]
    exact k F ad H _ (.refl r) (Rep.bl _)
  · cases e
/-! ### -a -/
def cUn (g : T → Cs → Option (T × Cs)) (f : EF) : EF := fun σ S => (f σ S).bind fun p => g p.1 p.2
def oNeg (x : T) (S : Cs) : Option (T × Cs) := (asI x).map fun i => (.d (.int (-i)), S)
theorem fe_neg {a : Expr} {fa : EF} {pos : Pos} (ha : FE X a fa) : FE X (.UnaryOp .USub a pos) (cUn oNeg fa) := by
  refine PE.imp (pe_un un_neg ha) fun τ H Q ⟨F, ad, σ, S, t, S', r, so, e, k⟩ => ?_
  obtain ⟨⟨tx, S1⟩, e1, e⟩ := bind_some e
  obtain ⟨i, e2, e⟩ := Option.map_eq_some_iff.mp e
  cases e
  exact ⟨F, ad, σ, S, tx, S1, r, so, e1, fun F1 ad1 H1 v g1 rx => ⟨i, asI_ok e2 rx, k F1 ad1 H1 _ g1 (Rep.int _)⟩⟩
/-! ### a < b < c -/
def cChain (g g' : OF) (fa fb fc : EF) : EF := fun σ S => (fa σ S).bind fun p => (fb σ p.2).bind fun q => (g p.1 q.1 q.2).bind fun z => match z.1 with
  | .d (.bl true) => (fc σ z.2).bind fun u => g' q.1 u.1 u.2
  | .d (.bl false) => some (.d (.bl false), z.2)
  | _ => none
theorem chain_ok {op op' : CmpOp} {g g' : OF} {a b c : Expr} {fa fb fc : EF} {τ : L2.St} {H : Hp} {Q : VK} (h : tE X.K (cChain g g' fa fb fc) τ H Q) : tChain (r2 X.K g) (r2 X.K g') (tE X.K fa) (tE X.K fb) (tE X.K fc) τ H Q := by
  obtain ⟨F, ad, σ, S, t, S', r, so, e, k⟩ := h
  obtain ⟨⟨tx, S1⟩, e1, e⟩ := bind_some e
  obtain ⟨⟨ty, S2⟩, e2, e⟩ := bind_some e
  obtain ⟨⟨tz, S3⟩, e3, e⟩ := bind_some e
  refine ⟨F, ad, σ, S, tx, S1, r, so, e1, fun F1 ad1 H1 v g1 rx => ⟨F1, ad1, σ, S1, ty, S2, g1.rel, so.step g1.st, e2, fun F2 ad2 H2 w g2 ry =>
    ⟨F2, ad2, S2, tx, ty, tz, S3, g2.rel, rx.step g2.st, ry, e3, fun F3 ad3 H3 z g3 rz => ?_⟩⟩⟩
  simp only at e
  split at e
  · refine ⟨true, rz.bl, ?_⟩
    obtain ⟨⟨tu, S4⟩, e4, e⟩ := bind_some e
    rw [if_pos rfl]
    exact ⟨F3, ad3, σ, S3, tu, S4, g3.rel, so.step ((g1.trans g2).trans g3).st, e4, fun F4 ad4 H4 u g4 ru =>
      ⟨F4, ad4, S4, ty, tu, t, S', g4.rel, ry.step (g3.trans g4).st, ru, e, fun F5 ad5 H5 y g5 r5 => k F5 ad5 H5 y ((((g1.trans g2).trans g3).trans g4).trans g5) r5⟩⟩
  · cases e
    refine ⟨false, rz.bl, ?_⟩
    rw [if_neg Bool.false_ne_true]
    exact k F3 ad3 H3 _ ((g1.trans g2).trans g3) (Rep.bl _)
  · cases e
theorem fe_chain {op op' : CmpOp} {g g' : OF} {a b c : Expr} {fa fb fc : EF} {pos : Pos} (ho : OpF X (compareOp op) g) (ho' : OpF X (compareOp op') g') (ha : FE X a fa) (hb : FE X b fb) (hc : FE X c fc)
    (hm : lastMarks [op, op'] [b, c] = false := by with_unfolding_all rfl) : FE X (.Compare a [op, op'] [b, c] pos) (cChain g g' fa fb fc) :=
  PE.imp (pe_chain ho ho' ha hb hc hm) fun τ H Q h => chain_ok (op := op) (op' := op') (a := a) (b := b) (c := c) h
theorem fb_chain {op op' : CmpOp} {g g' : OF} {a b c : Expr} {fa fb fc : EF} {pos : Pos} (ho : OpF X (compareOp op) g) (ho' : OpF X (compareOp op') g') (ha : FE X a fa) (hb : FE X b fb) (hc : FE X c fc)
    (hm : lastMarks [op, op'] [b, c] = false := by with_unfolding_all rfl) : FB X (.Compare a [op, op'] [b, c] pos) (cB (cChain g g' fa fb fc)) :=
  PT.imp (pt_chain ho ho' ha hb hc hm) fun τ H Q h => chain_ok (op := op) (op' := op') (a := a) (b := b) (c := c) (toB h)
/-! ### subscripts -/
theorem IxR.imp {r r' : R2} (h : IxR X r) (w : ∀ x y H Q, r' x y H Q → r x y H Q) : IxR X r' := fun vl sl pins s σ H x y v u Q I rx ry q => h vl sl pins s σ H x y v u Q I rx ry (w _ _ _ _ q)
def IxF (X : Cx) (g : OF) : Prop := IxR X (r2 X.K g)
def oIx : OF := fun x y S => match asI y with
  | none => none
  | some i => (match seqOf x S with
    | some p => (atI p.2 i).map fun t => (t, S)
    | none => (match asS x with
      | some z => if z.length ≤ sizeLine then (atI z.cps.toList i).map fun c => (.d (.str ⟨#[c]⟩), S) else none
      | none => none))
theorem atI_ok {α β : Type} {R : α → β → Prop} {vs : List α} {ts : List β} (r : Paired R vs ts) {i : Int} {t : β} (e : atI ts i = some t) : ∃ v, atI vs i = some v ∧ R v t := by
  unfold atI at e
  obtain ⟨j, e1, e2⟩ := bind_some e
  obtain ⟨v, h1, h2⟩ := Paired.get r e2
  refine ⟨v, ?_, h2⟩
  unfold atI
  rw [Paired.length r, e1]
  exact h1
theorem f_ix : IxF X oIx := by
  refine IxR.imp ix_seq fun x y H Q ⟨F, ad, S, tx, ty, t, S', r, rx, ry, e, k⟩ => ?_
  unfold oIx at e
  split at e
  · cases e
  · rename_i i ei
    have ey := asI_ok ei ry
    split at e
    · rename_i p ep
      obtain ⟨u, e1, e⟩ := Option.map_eq_some_iff.mp e
      cases e
      obtain ⟨b, ts⟩ := p
      obtain ⟨a, vs, rfl, _, q1, q2, rs⟩ := seqOf_ok r rx ep
      obtain ⟨v, h1, h2⟩ := atI_ok rs e1
      cases b with
      | false => exact .inl ⟨a, vs, i, v, rfl, ey, q2 rfl, h1, k F ad H v (.refl r) h2⟩
      | true => exact .inr (.inl ⟨a, vs, i, v, rfl, ey, q1 rfl, h1, k F ad H v (.refl r) h2⟩)
    · split at e
      · rename_i z ez
        split at e
        · rename_i hz
          obtain ⟨u, e1, e⟩ := Option.map_eq_some_iff.mp e
          cases e
          exact .inr (.inr ⟨z, i, u, asS_ok ez rx, ey, hz, e1, k F ad H _ (.refl r) (Rep.str _)⟩)
        · cases e
      · cases e
theorem fe_ix {a b : Expr} {fa fb : EF} {pos : Pos} (ha : FE X a fa) (hb : FE X b fb) (hs : PlainIx b := by intro _ _; rfl) : FE X (.Subscript a b pos) (cBin oIx fa fb) :=
  PE.imp (pe_ix f_ix ha hb hs) fun _ _ _ h => two h
/-! ### calls of the program's own defs -/
abbrev MF := List T → Cs → Option (T × Cs)
/-- a def's promise: it does what m does -/
def spF (K : Frg) (n : Nat) (m : MF) : Sp := fun vs H Q _ => ∃ F ad S ts t S', RelS K F ad S H ∧ RepTs K F ad vs ts ∧ ts.length = n ∧ m ts S = some (t, S') ∧
  ∀ F' ad' H' v, Go K F ad H F' ad' H' S' → RepT K F' ad' v t → Q v H'
/-- a call that may change the caller's objects -/
def cCallS (m : MF) (dts : List T) (n : Nat) (fs : AF) : EF := fun σ S => (fs σ S).bind fun p => if (p.1 ++ dts).length = n then m (p.1 ++ dts) p.2 else none
/-- a call upon data; the answer is data -/
def cCallP (m : MF) (dts : List T) (n : Nat) (fs : AF) : EF := fun σ S => (fs σ S).bind fun p => if (p.1 ++ dts).length = n then
  (toDs (p.1 ++ dts) p.2).bind fun q => (m (q.1.map .d) []).bind fun u => (toD dep u.1 u.2).map fun w => (.d w.1, q.2) else none
/-- the same; a list that comes back may be changed -/
def cCallN (m : MF) (dts : List T) (n : Nat) (fs : AF) : EF := fun σ S => (fs σ S).bind fun p => if (p.1 ++ dts).length = n then
  (toDs (p.1 ++ dts) p.2).bind fun q => (m (q.1.map .d) []).bind fun u => match u.1 with
    | .d d => some (.d d, q.2)
    | .own j => (match u.2[j]? with
      | some (.lst ts) => (toDs ts u.2).bind fun w => if isFrz w.2[j]? = true then none else some (.own q.2.length, q.2 ++ [.lst (w.1.map .d)])
      | _ => none) else none
theorem RelS.nil {K : Frg} {F : Hp} {ad : List Addr} {S : Cs} {H : Hp} (r : RelS K F ad S H) : RelS K F [] [] H := ⟨r.sub, List.nodup_nil, rfl, fun p a c e _ => by simp at e⟩
theorem Go.wide {K : Frg} {F : Hp} {ad : List Addr} {S : Cs} {H F' H' : Hp} {ad' : List Addr} {S' : Cs} (r : RelS K F ad S H) (g : Go K F [] H F' ad' H' S') : Go K F ad H F' ad H' S := by
  have hn : ∀ a, (∃ o, H a = some o) → F a = none → F' a = none := fun a ⟨o, h⟩ hf => by
    cases q : F' a with
    | none => rfl
    | some u =>
      rcases g.st.fnew a u q with z | z | z
      · rw [hf] at z; cases z
      · simp at z
      · rw [h] at z; cases z
  have st : Step F ad H F' ad H' := ⟨g.st.fsub, fun b o h => by
    rcases g.st.fnew b o h with z | z | z
    · exact .inl z
    · simp at z
    · exact .inr (.inr z), ⟨[], by simp, fun _ h => by simp at h⟩, fun b o h _ => g.st.keep b o h (by simp), g.st.alive⟩
  refine ⟨st, ⟨g.rel.sub, r.nd, r.len, fun p a c e1 e2 => ?_⟩⟩
  have q := r.cells p a c e1 e2
  exact q.step st (fun o h => g.st.keep a o h (by simp)) fun h => hn a q.there h
theorem CellOk.more {K : Frg} {F : Hp} {ad : List Addr} {H : Hp} {a : Addr} {c : Cell} (l : List Addr) (q : CellOk K F ad H a c) : CellOk K F (ad ++ l) H a c := by
  cases c with
  | lst ts => obtain ⟨n, vs, e, q⟩ := q; exact ⟨n, vs, e, Paired.mapP q fun _ t q => RepT.mono (fun _ _ h => h) t q⟩
  | ins c fs => obtain ⟨n, dx, fvs, e, q⟩ := q; exact ⟨n, dx, fvs, e, Paired.mapP q fun _ t q => ⟨q.1, RepT.mono (fun _ _ h => h) t.2 q.2⟩⟩
  | frz d => exact q
/-- an object that stands apart becomes a local one -/
theorem RelS.adopt {K : Frg} {F : Hp} {ad : List Addr} {S : Cs} {H : Hp} {a : Addr} {c : Cell} (r : RelS K F ad S H) (na : a ∉ ad) (hc : ∀ l, CellOk K F (ad ++ l) H a c) : RelS K F (ad ++ [a]) (S ++ [c]) H := by
  refine ⟨r.sub, ?_, by simp [r.len], fun i b c' i1 i2 => ?_⟩
  · rw [List.nodup_append]
    exact ⟨r.nd, by simp, fun x hx y hy => by rw [List.mem_singleton.mp hy]; exact fun (z : x = a) => na (z ▸ hx)⟩
  · by_cases hi : i < ad.length
    · rw [List.getElem?_append_left hi] at i1
      rw [List.getElem?_append_left (by rw [← r.len]; exact hi)] at i2
      exact (r.cells i b c' i1 i2).more [a]
    · rw [List.getElem?_append_right (Nat.le_of_not_lt hi)] at i1
      rw [List.getElem?_append_right (by rw [← r.len]; exact Nat.le_of_not_lt hi), ← r.len] at i2
      have e0 : i - ad.length = 0 := by
        have := (List.getElem?_eq_some_iff.mp i1).1
        simp at this
        omega
      rw [e0] at i1 i2
      simp at i1 i2
      subst i1 i2
      exact hc [a]
theorem callP_ok {m : MF} {n : Nat} {K : Frg} {F : Hp} {ad : List Addr} {S : Cs} {H : Hp} {vs : List V} {ts : List T} {Q : VK} {E : XK} {ds : List D} {S1 : Cs} {u : T × Cs}
    (r : RelS K F ad S H) (rs : RepTs K F ad vs ts) (hn : ts.length = n) (e1 : toDs ts S = some (ds, S1)) (e2 : m (ds.map .d) [] = some u)
    (k : ∀ F' ad' H' v F1, Still K F ad H F1 S1 → RelS K F1 [] [] H → Go K F1 [] H F' ad' H' u.2 → RepT K F' ad' v u.1 → Q v H') : spF K n m vs H Q E := by
  obtain ⟨F1, g1, p1⟩ := toDs_ok r rs e1
  exact ⟨F1, [], [], ds.map .d, u.1, u.2, g1.rel.nil, p1.ts, by rw [List.length_map, ← p1.length, Paired.length rs, hn], e2, fun F' ad' H' v g rv => k F' ad' H' v F1 g1 g1.rel.nil g rv⟩
section
variable {CX : CXT} {j n : Nat} {f : Addr} {fd : FuncData} {ps : List Str} {m : MF} {ds : List Value} {dvs : List V} {dts : List T} {E : XK} {x : Str} {p pos : Pos} {e : Expr} {es : List Expr} {fs : AF}
theorem callS_rd (hdv : ∀ F ad, RepTs X.K F ad dvs dts) {τ : L2.St} {H : Hp} {Q : VK} (h : tE X.K (cCallS m dts n fs) τ H Q) : tCall (spF X.K n m) dvs E (tA X.K fs) τ H Q := by
  obtain ⟨F, ad, σ, S, t, S', r, so, e, k⟩ := h
  obtain ⟨⟨ts, S1⟩, e1, e⟩ := bind_some e
  simp only at e
  split at e
  · rename_i hn
    exact ⟨F, ad, σ, S, ts, S1, r, so, e1, fun F1 ad1 H1 vs g1 rs => ⟨F1, ad1, S1, ts ++ dts, t, S', g1.rel, Paired.append rs (hdv _ _), hn, e, fun F' ad' H' v g rv => k F' ad' H' v (g1.trans g) rv⟩⟩
  · cases e
theorem callP_rd (hdv : ∀ F ad, RepTs X.K F ad dvs dts) {τ : L2.St} {H : Hp} {Q : VK} (h : tE X.K (cCallP m dts n fs) τ H Q) : tCall (spF X.K n m) dvs E (tA X.K fs) τ H Q := by
  obtain ⟨F, ad, σ, S, t, S', r, so, e, k⟩ := h
  obtain ⟨⟨ts, S1⟩, e1, e⟩ := bind_some e
  simp only at e
  split at e
  · rename_i hn
    refine ⟨F, ad, σ, S, ts, S1, r, so, e1, fun F1 ad1 H1 vs g1 rs => ?_⟩
    obtain ⟨⟨qs, S2⟩, e2, e⟩ := bind_some e
    obtain ⟨⟨u, S3⟩, e3, e⟩ := bind_some e
    obtain ⟨⟨w, S4⟩, e4, e⟩ := Option.map_eq_some_iff.mp e
    cases e
    refine callP_ok g1.rel (Paired.append rs (hdv _ _)) hn e2 e3 fun F' ad' H' v F2 g2 r0 g rv => ?_
    obtain ⟨F3, g3, p3⟩ := toD_ok dep u S3 w S4 F' ad' H' v g.rel rv e4
    have g4 : Go X.K F2 ad1 H1 F3 ad1 H' S2 := Go.wide g2.rel (g.trans g3.go)
    exact k F3 ad1 H' v ((g1.trans g2.go).trans g4) p3
  · cases e
theorem callN_rd (hdv : ∀ F ad, RepTs X.K F ad dvs dts) {τ : L2.St} {H : Hp} {Q : VK} (h : tE X.K (cCallN m dts n fs) τ H Q) : tCall (spF X.K n m) dvs E (tA X.K fs) τ H Q := by
  obtain ⟨F, ad, σ, S, t, S', r, so, e, k⟩ := h
  obtain ⟨⟨ts, S1⟩, e1, e⟩ := bind_some e
  simp only at e
  split at e
  · rename_i hn
    refine ⟨F, ad, σ, S, ts, S1, r, so, e1, fun F1 ad1 H1 vs g1 rs => ?_⟩
    obtain ⟨⟨qs, S2⟩, e2, e⟩ := bind_some e
    obtain ⟨⟨u, S3⟩, e3, e⟩ := bind_some e
    refine callP_ok g1.rel (Paired.append rs (hdv _ _)) hn e2 e3 fun F' ad' H' v F2 g2 r0 g rv => ?_
    cases u with
    | d d =>
      simp only at e
      cases e
      exact k F' ad1 H' v ((g1.trans g2.go).trans (Go.wide g2.rel g)) rv
    | own q =>
      simp only at e
      split at e
      · rename_i us hu
        obtain ⟨⟨ws, S4⟩, e4, e⟩ := bind_some e
        simp only at e
        split at e
        · cases e
        · rename_i hz
          cases e
          obtain ⟨a, hp, rfl⟩ := rv
          obtain ⟨_, zs, hH, rz⟩ := g.rel.cells q a _ hp hu
          obtain ⟨F3, g3, p3⟩ := toDs_ok g.rel rz e4
          obtain ⟨nF, c1, hc1⟩ := g3.rel.notF hp hz
          have gg : Go X.K F2 ad1 H1 F3 ad1 H' S2 := Go.wide g2.rel (g.trans g3.go)
          obtain ⟨l, el, hl⟩ := g.st.adx
          have fresh : H1 a = none := hl a (by rw [List.nil_append] at el; rw [← el]; exact List.mem_of_getElem? hp)
          have na : a ∉ ad1 := fun z => by
            obtain ⟨o, ho⟩ := g1.rel.there z
            rw [fresh] at ho; cases ho
          have st : Step F2 ad1 H1 F3 (ad1 ++ [a]) H' := ⟨gg.st.fsub, gg.st.fnew, ⟨[a], rfl, fun b hb => by rw [List.mem_singleton.mp hb]; exact fresh⟩, gg.st.keep, gg.st.alive⟩
          have rel : RelS X.K F3 (ad1 ++ [a]) (S2 ++ [.lst (ws.map .d)]) H' := gg.rel.adopt na fun l => ⟨nF, zs, hH, p3.ts⟩
          exact k F3 (ad1 ++ [a]) H' _ ((g1.trans g2.go).trans ⟨st, rel⟩) ⟨a, by rw [← gg.rel.len, List.getElem?_append_right (Nat.le_refl _)]; simp, rfl⟩
      · cases e
  · cases e
/-- f(e, ..) -/
theorem fe_call {c : EF} (hc : ∀ τ H Q, tE X.K c τ H Q → tCall (spF X.K n m) dvs E (tA X.K fs) τ H Q) (G : FnOk X.prog X.w X.K X.mg X.base CX j f fd ps (spF X.K n m)) (hr : Room j X.A) (hg : Gl X x) (hm : X.mg x = some (.ref f)) (hk : PySem.W.keepIn X.K (.ref f) = true)
    (hb : Binds X.K fd ps ds) (hd : Vals dvs ds) (hx : Passes CX X E) (ha : FA X (e :: es) fs) (hdb : (x == ("__debug__" : Str)) = false := by decide) (hs : starEach (e :: es) X.env = (false, eval e X.env) :: starEach es X.env := by rfl)
    (hpl : (backTo pos (starEach es X.env)).any (·.1) = false := by rfl) : FE X (.Call (.Name x p) (e :: es) [] pos) c :=
  PE.imp (pe_call G hr hg hm hk hb hd hx ha hdb hs hpl) hc
end
end
end FL
/-! FL: built-ins, methods, statements, loops. -/
namespace FL
open PySem PySem.Spec PyProof.Rows L2
section
variable {X : Cx}
/-! ### built-ins -/
def rF (K : Frg) (g : MF) : List V → Hp → VK → Prop := fun vs H Q => ∃ F ad S ts t S', RelS K F ad S H ∧ RepTs K F ad vs ts ∧ g ts S = some (t, S') ∧
  ∀ F' ad' H' v, Go K F ad H F' ad' H' S' → RepT K F' ad' v t → Q v H'
def CallF (X : Cx) (f : Value) (g : MF) : Prop := CallR X f (rF X.K g)
theorem CallR.imp {f : Value} {r r' : List V → Hp → VK → Prop} (h : CallR X f r) (w : ∀ x H Q, r' x H Q → r x H Q) : CallR X f r' := fun pins s σ H x v Q I rx q => h pins s σ H x v Q I rx (w _ _ _ q)
def cCB (g : MF) (fs : AF) : EF := fun σ S => (fs σ S).bind fun p => g p.1 p.2
section
variable {g : MF} {fs : AF} {x : Str} {p pos : Pos} {e : Expr} {es : List Expr} {id : String}
theorem cb_rd {τ : L2.St} {H : Hp} {Q : VK} (h : tE X.K (cCB g fs) τ H Q) : tCB (rF X.K g) (tA X.K fs) τ H Q := by
  obtain ⟨F, ad, σ, S, t, S', r, so, e, k⟩ := h
  obtain ⟨⟨ts, S1⟩, e1, e⟩ := bind_some e
  exact ⟨F, ad, σ, S, ts, S1, r, so, e1, fun F1 ad1 H1 vs g1 rs => ⟨F1, ad1, S1, ts, t, S', g1.rel, rs, e, fun F' ad' H' v g rv => k F' ad' H' v (g1.trans g) rv⟩⟩
theorem fe_callB (hc : CallF X (.builtin id) g) (hg : Gl X x) (hm : X.mg x = none) (hv : bootBuiltins x = some (.builtin id)) (ha : FA X (e :: es) fs) (hn : x ≠ "__name__" := by decide) (hdb : (x == ("__debug__" : Str)) = false := by decide)
    (hs : starEach (e :: es) X.env = (false, eval e X.env) :: starEach es X.env := by rfl) (hpl : (backTo pos (starEach es X.env)).any (·.1) = false := by rfl) : FE X (.Call (.Name x p) (e :: es) [] pos) (cCB g fs) :=
  PE.imp (pe_callB hc hg hm hv ha hn hdb hs hpl) fun _ _ _ h => cb_rd h
theorem fe_callTy (hc : CallF X (.type id) g) (hg : Gl X x) (hm : X.mg x = none) (hv : bootBuiltins x = some (.type id)) (ha : FA X (e :: es) fs) (hn : x ≠ "__name__" := by decide) (hdb : (x == ("__debug__" : Str)) = false := by decide)
    (hs : starEach (e :: es) X.env = (false, eval e X.env) :: starEach es X.env := by rfl) (hpl : (backTo pos (starEach es X.env)).any (·.1) = false := by rfl) : FE X (.Call (.Name x p) (e :: es) [] pos) (cCB g fs) :=
  PE.imp (pe_callTy hc hg hm hv ha hn hdb hs hpl) fun _ _ _ h => cb_rd h
end
def bOr (f g : MF) : MF := fun ts S => match f ts S with
  | some z => some z
  | none => g ts S
theorem CallF.or {f : Value} {g g' : MF} (h : CallF X f g) (h' : CallF X f g') : CallF X f (bOr g g') := by
  intro pins s σ H xs us Q I rx q
  obtain ⟨F, ad, S, ts, t, S', r, rs, e, k⟩ := q
  unfold bOr at e
  split at e
  · rename_i z e1
    cases e
    exact h pins s σ H xs us Q I rx ⟨F, ad, S, ts, t, S', r, rs, e1, k⟩
  · exact h' pins s σ H xs us Q I rx ⟨F, ad, S, ts, t, S', r, rs, e, k⟩
theorem pair1 {α β : Type} {R : α → β → Prop} {vs : List α} {y : β} (r : Paired R vs [y]) : ∃ x, vs = [x] ∧ R x y := by
  cases r with
  | cons a b => cases b; exact ⟨_, rfl, a⟩
theorem pair2 {α β : Type} {R : α → β → Prop} {vs : List α} {y z : β} (r : Paired R vs [y, z]) : ∃ x w, vs = [x, w] ∧ R x y ∧ R w z := by
  cases r with
  | cons a b =>
    cases b with
    | cons c d => cases d; exact ⟨_, _, rfl, a, c⟩
def b1 (g : T → Cs → Option (T × Cs)) : MF := fun ts S => match ts with
  | [t] => g t S
  | _ => none
def b2 (g : T → T → Cs → Option (T × Cs)) : MF := fun ts S => match ts with
  | [t, u] => g t u S
  | _ => none
theorem b1_some {g : T → Cs → Option (T × Cs)} {ts : List T} {S : Cs} {z : T × Cs} (e : b1 g ts S = some z) : ∃ t, ts = [t] ∧ g t S = some z := by
  unfold b1 at e
  split at e
  · exact ⟨_, rfl, e⟩
  · cases e
theorem b2_some {g : T → T → Cs → Option (T × Cs)} {ts : List T} {S : Cs} {z : T × Cs} (e : b2 g ts S = some z) : ∃ t u, ts = [t, u] ∧ g t u S = some z := by
  unfold b2 at e
  split at e
  · exact ⟨_, _, rfl, e⟩
  · cases e
def bLen : MF := b1 fun t S => match seqOf t S with
  | some p => some (.d (.int p.2.length), S)
  | none => none
theorem f_len : CallF X (.builtin "len") bLen := by
  refine CallR.imp call_len_seq fun vs H Q ⟨F, ad, S, ts, t, S', r, rs, e, k⟩ => ?_
  have e2 := b1_some (show b1 _ ts S = some (t, S') from e)
  clear e
  obtain ⟨_, rfl, e⟩ := e2
  split at e
  · rename_i q hq
    cases e
    obtain ⟨x, rfl, rx⟩ := pair1 rs
    obtain ⟨b, us⟩ := q
    obtain ⟨a, ws, rfl, _, q1, q2, rr⟩ := seqOf_ok r rx hq
    refine ⟨a, ws, rfl, ?_, ?_⟩
    · cases b with
      | false => exact .inl (q2 rfl)
      | true => exact .inr (q1 rfl)
    · rw [Paired.length rr]
      exact k F ad H _ (.refl r) (Rep.int _)
  · cases e
def bLenS : MF := b1 fun t S => match asS t with
  | some z => if z.length ≤ sizeLine then some (.d (.int z.length), S) else none
  | none => none
theorem f_lenS : CallF X (.builtin "len") bLenS := by
  refine CallR.imp call_len_str fun vs H Q ⟨F, ad, S, ts, t, S', r, rs, e, k⟩ => ?_
  have e2 := b1_some (show b1 _ ts S = some (t, S') from e)
  clear e
  obtain ⟨_, rfl, e⟩ := e2
  split at e
  · rename_i z hz
    split at e
    · rename_i hl
      cases e
      obtain ⟨x, rfl, rx⟩ := pair1 rs
      exact ⟨z, by rw [asS_ok hz rx], hl, k F ad H _ (.refl r) (Rep.int _)⟩
    · cases e
  · cases e
def bI1 (g : Int → Int) : MF := b1 fun t S => (asI t).map fun i => (.d (.int (g i)), S)
def bI2 (g : Int → Int → Int) : MF := b2 fun t u S => match asI t, asI u with
  | some i, some j => some (.d (.int (g i j)), S)
  | _, _ => none
theorem i1_rd {K : Frg} {g : Int → Int} {vs : List V} {H : Hp} {Q : VK} (h : rF K (bI1 g) vs H Q) : ∃ i, vs = [.int i] ∧ Q (.int (g i)) H := by
  obtain ⟨F, ad, S, ts, t, S', r, rs, e, k⟩ := h
  have e2 := b1_some (show b1 _ ts S = some (t, S') from e)
  clear e
  obtain ⟨_, rfl, e⟩ := e2
  obtain ⟨i, hi, e⟩ := Option.map_eq_some_iff.mp e
  cases e
  obtain ⟨x, rfl, rx⟩ := pair1 rs
  exact ⟨i, by rw [asI_ok hi rx], k F ad H _ (.refl r) (Rep.int _)⟩
theorem i2_rd {K : Frg} {g : Int → Int → Int} {vs : List V} {H : Hp} {Q : VK} (h : rF K (bI2 g) vs H Q) : ∃ i j, vs = [.int i, .int j] ∧ Q (.int (g i j)) H := by
  obtain ⟨F, ad, S, ts, t, S', r, rs, e, k⟩ := h
  have e2 := b2_some (show b2 _ ts S = some (t, S') from e)
  clear e
  obtain ⟨_, _, rfl, e⟩ := e2
  split at e
  · rename_i i j hi hj
    cases e
    obtain ⟨x, y, rfl, rx, ry⟩ := pair2 rs
    exact ⟨i, j, by rw [asI_ok hi rx, asI_ok hj ry], k F ad H _ (.refl r) (Rep.int _)⟩
  · cases e
abbrev bAbs : MF := bI1 fun i => if i < 0 then -i else i
abbrev bInt : MF := bI1 fun i => i
abbrev bMax2 : MF := bI2 fun i j => if j > i then j else i
abbrev bMin2 : MF := bI2 fun i j => if j < i then j else i
theorem f_abs : CallF X (.builtin "abs") bAbs := CallR.imp call_abs fun _ _ _ h => i1_rd h
theorem f_int : CallF X (.type "int") bInt := CallR.imp call_int1 fun _ _ _ h => .inl (i1_rd h)
theorem f_max2 (hc : X.calm = true) : CallF X (.builtin "max") bMax2 := CallR.imp (call_max2 hc) fun _ _ _ h => i2_rd h
theorem f_min2 (hc : X.calm = true) : CallF X (.builtin "min") bMin2 := CallR.imp (call_min2 hc) fun _ _ _ h => i2_rd h
/-- list(xs) -/
def bList : MF := b1 fun t S => (seqOf t S).map fun p => (.own S.length, S ++ [.lst p.2])
theorem f_list : CallF X (.type "list") bList := by
  refine CallR.imp call_list_of fun vs H Q ⟨F, ad, S, ts, t, S', r, rs, e, k⟩ => ?_
  have e2 := b1_some (show b1 _ ts S = some (t, S') from e)
  clear e
  obtain ⟨_, rfl, e⟩ := e2
  obtain ⟨q, hq, e⟩ := Option.map_eq_some_iff.mp e
  cases e
  obtain ⟨x, rfl, rx⟩ := pair1 rs
  obtain ⟨b, us⟩ := q
  obtain ⟨a, ws, rfl, _, q1, q2, rr⟩ := seqOf_ok r rx hq
  refine ⟨a, ws, rfl, ?_, fun l hl => ?_⟩
  · cases b with
    | false => exact .inl (q2 rfl)
    | true => exact .inr (q1 rfl)
  · obtain ⟨g2, q2⟩ := new_lst r hl rr
    exact k _ _ _ _ g2 q2
/-- tuple(xs) -/
def bTuple : MF := b1 fun t S => match seqOf t S with
  | some (true, ts) => (toDs ts S).map fun q => (.d (.tup q.1), q.2)
  | some (false, ts) => (toDs ts S).map fun q => (.d (.tup q.1), q.2)
  | none => none
theorem f_tuple : CallF X (.type "tuple") bTuple := by
  refine CallR.imp call_tuple_of fun vs H Q ⟨F, ad, S, ts, t, S', r, rs, e, k⟩ => ?_
  have e2 := b1_some (show b1 _ ts S = some (t, S') from e)
  clear e
  obtain ⟨_, rfl, e⟩ := e2
  split at e
  · rename_i us hq
    obtain ⟨⟨ds, S1⟩, e1, e⟩ := Option.map_eq_some_iff.mp e
    cases e
    obtain ⟨x, rfl, rx⟩ := pair1 rs
    obtain ⟨a, ws, rfl, qF, q1, q2, rr⟩ := seqOf_ok r rx hq
    obtain ⟨F2, g2, rd⟩ := toDs_ok r rr e1
    exact ⟨a, ws, rfl, .inr ⟨q1 rfl, k F2 ad H _ g2.go (Rep.tup (SqT.sub g2.st.fsub (qF rfl)) rd)⟩⟩
  · rename_i us hq
    obtain ⟨⟨ds, S1⟩, e1, e⟩ := Option.map_eq_some_iff.mp e
    cases e
    obtain ⟨x, rfl, rx⟩ := pair1 rs
    obtain ⟨a, ws, rfl, qF, q1, q2, rr⟩ := seqOf_ok r rx hq
    refine ⟨a, ws, rfl, .inl ⟨q2 rfl, fun l hl => ?_⟩⟩
    obtain ⟨F2, g2, rd⟩ := toDs_ok r rr e1
    obtain ⟨r3, s3⟩ := g2.rel.newF (o := .tup ws) hl
    exact k _ ad _ _ ⟨g2.st.trans s3, r3⟩ (Rep.tup (.of upd_same) (rd.mono s3.fsub))
  · cases e
/-- the ints of a list -/
def intsOf (t : T) (S : Cs) : Option (List Int) := match seqOf t S with
  | some (false, ts) => mapO asI ts
  | _ => none
theorem mapO_int {K : Frg} {F : Hp} {ad : List Addr} : ∀ {vs : List V} {ts : List T} {ns : List Int}, RepTs K F ad vs ts → mapO asI ts = some ns → vs = ns.map V.int
  | _, _, _, .nil, e => by unfold mapO at e; cases e; rfl
  | _, _, _, .cons q r, e => by
    unfold mapO at e
    obtain ⟨p1, e1, e⟩ := bind_some e
    obtain ⟨pr, e2, e⟩ := Option.map_eq_some_iff.mp e
    cases e
    rw [asI_ok e1 q, mapO_int r e2]
    rfl
theorem intsOf_ok {K : Frg} {F : Hp} {ad : List Addr} {S : Cs} {H : Hp} {v : V} {t : T} {ns : List Int} (g : RelS K F ad S H) (r : RepT K F ad v t) (e : intsOf t S = some ns) : ∃ a, v = .ref a ∧ SqL K H a (ns.map V.int) := by
  unfold intsOf at e
  split at e
  · rename_i ts h
    obtain ⟨a, vs, rfl, _, _, q, rr⟩ := seqOf_ok g r h
    have e2 := mapO_int rr e
    rw [← e2]
    exact ⟨a, rfl, q rfl⟩
  · cases e
def bSum : MF := b1 fun t S => (intsOf t S).map fun ns => (.d (.int ns.sum), S)
theorem f_sum (hc : X.calm = true) : CallF X (.builtin "sum") bSum := by
  refine CallR.imp (cr_sum hc) fun vs H Q ⟨F, ad, S, ts, t, S', r, rs, e, k⟩ => ?_
  have e2 := b1_some (show b1 _ ts S = some (t, S') from e)
  clear e
  obtain ⟨_, rfl, e⟩ := e2
  obtain ⟨ns, hq, e⟩ := Option.map_eq_some_iff.mp e
  cases e
  obtain ⟨x, rfl, rx⟩ := pair1 rs
  obtain ⟨a, rfl, q⟩ := intsOf_ok r rx hq
  exact ⟨a, ns, rfl, q, k F ad H _ (.refl r) (Rep.int _)⟩
/-- the greatest of a list that is not empty -/
def maxI : List Int → Int
  | [] => 0
  | [a] => a
  | a :: b :: l => max a (maxI (b :: l))
def minI : List Int → Int
  | [] => 0
  | [a] => a
  | a :: b :: l => min a (minI (b :: l))
theorem maxI_mem : ∀ (l : List Int), l ≠ [] → maxI l ∈ l
  | [a], _ => by simp [maxI]
  | a :: b :: l, _ => by
    have h := maxI_mem (b :: l) (by simp)
    show max a (maxI (b :: l)) ∈ a :: b :: l
    rcases Int.le_total a (maxI (b :: l)) with q | q
    · rw [Int.max_eq_right q]; exact List.mem_cons_of_mem _ h
    · rw [Int.max_eq_left q]; exact List.mem_cons_self
theorem maxI_ge : ∀ (l : List Int) (y : Int), y ∈ l → y ≤ maxI l
  | [a], y, h => by simp at h; rw [h]; exact Int.le_refl _
  | a :: b :: l, y, h => by
    show y ≤ max a (maxI (b :: l))
    rcases List.mem_cons.mp h with rfl | h
    · exact Int.le_max_left _ _
    · exact Int.le_trans (maxI_ge (b :: l) y h) (Int.le_max_right _ _)
theorem minI_mem : ∀ (l : List Int), l ≠ [] → minI l ∈ l
  | [a], _ => by simp [minI]
  | a :: b :: l, _ => by
    have h := minI_mem (b :: l) (by simp)
    show min a (minI (b :: l)) ∈ a :: b :: l
    rcases Int.le_total a (minI (b :: l)) with q | q
    · rw [Int.min_eq_left q]; exact List.mem_cons_self
    · rw [Int.min_eq_right q]; exact List.mem_cons_of_mem _ h
theorem minI_le : ∀ (l : List Int) (y : Int), y ∈ l → minI l ≤ y
  | [a], y, h => by simp at h; rw [h]; exact Int.le_refl _
  | a :: b :: l, y, h => by
    show min a (minI (b :: l)) ≤ y
    rcases List.mem_cons.mp h with rfl | h
    · exact Int.min_le_left _ _
    · exact Int.le_trans (Int.min_le_right _ _) (minI_le (b :: l) y h)
def bMax : MF := b1 fun t S => match intsOf t S with
  | some (n :: ns) => some (.d (.int (maxI (n :: ns))), S)
  | _ => none
def bMin : MF := b1 fun t S => match intsOf t S with
  | some (n :: ns) => some (.d (.int (minI (n :: ns))), S)
  | _ => none
theorem f_max (hc : X.calm = true) : CallF X (.builtin "max") bMax := by
  refine CallR.imp (cr_max hc) fun vs H Q ⟨F, ad, S, ts, t, S', r, rs, e, k⟩ => ?_
  have e2 := b1_some (show b1 _ ts S = some (t, S') from e)
  clear e
  obtain ⟨_, rfl, e⟩ := e2
  split at e
  · rename_i n ns hq
    cases e
    obtain ⟨x, rfl, rx⟩ := pair1 rs
    obtain ⟨a, rfl, q⟩ := intsOf_ok r rx hq
    refine ⟨a, n :: ns, rfl, q, by simp, fun m hm hy => ?_⟩
    have e : m = maxI (n :: ns) := Int.le_antisymm (maxI_ge _ _ hm) (hy _ (maxI_mem _ (by simp)))
    rw [e]
    exact k F ad H _ (.refl r) (Rep.int _)
  · cases e
theorem f_min (hc : X.calm = true) : CallF X (.builtin "min") bMin := by
  refine CallR.imp (cr_min hc) fun vs H Q ⟨F, ad, S, ts, t, S', r, rs, e, k⟩ => ?_
  have e2 := b1_some (show b1 _ ts S = some (t, S') from e)
  clear e
  obtain ⟨_, rfl, e⟩ := e2
  split at e
  · rename_i n ns hq
    cases e
    obtain ⟨x, rfl, rx⟩ := pair1 rs
    obtain ⟨a, rfl, q⟩ := intsOf_ok r rx hq
    refine ⟨a, n :: ns, rfl, q, by simp, fun m hm hy => ?_⟩
    have e : m = minI (n :: ns) := Int.le_antisymm (hy _ (minI_mem _ (by simp))) (minI_le _ _ hm)
    rw [e]
    exact k F ad H _ (.refl r) (Rep.int _)
  · cases e
/-! ### isinstance with a built-in class -/
def tyD (t : T) (S : Cs) : Option String := match deref t S with
  | .d .non => some "NoneType"
  | .d (.bl _) => some "bool"
  | .d (.int _) => some "int"
  | .d (.str _) => some "str"
  | .d (.tup _) => some "tuple"
  | .d (.lst _) => some "list"
  | .own p => (match S[p]? with
    | some (.lst _) => some "list"
    | _ => none)
  | _ => none
theorem SqT.tyX {K : Frg} {H : Hp} {a : Addr} {xs : List V} (h : SqT K H a xs) : TyX K H (.ref a) (.type "tuple") := by
  rcases h with (h | ⟨o, h⟩) | ⟨o, its, n, h, c, _⟩
  · exact .base (.tup h)
  · exact .fTuple h
  · exact .kTuple h c
theorem tyD_ok {K : Frg} {F : Hp} {ad : List Addr} {S : Cs} {H : Hp} {v : V} {t : T} {n : String} (g : RelS K F ad S H) (r : RepT K F ad v t) (e : tyD t S = some n) : TyX K H v (.type n) := by
  have r := deref_ok g r
  unfold tyD at e
  split at e
  · rename_i h; rw [h] at r; cases e; rw [r.non]; exact .base .non
  · rename_i h; rw [h] at r; cases e; rw [r.bl]; exact .base (.bl _)
  · rename_i h; rw [h] at r; cases e; rw [r.int]; exact .base (.int _)
  · rename_i h; rw [h] at r; cases e; rw [r.str]; exact .base (.str _)
  · rename_i ds h; rw [h] at r; cases e
    cases (show Rep K F v (.tup ds) from r) with
    | tup q rs => exact SqT.tyX (SqT.sub g.sub q)
  · rename_i ds h; rw [h] at r; cases e
    cases (show Rep K F v (.lst ds) from r) with
    | lst q rs => exact .base (.lst (g.sub _ _ q))
  · rename_i p h
    rw [h] at r
    obtain ⟨a, hp, rfl⟩ := r
    split at e
    · rename_i us h1
      cases e
      obtain ⟨_, vs, hH, rs⟩ := g.cells p a _ hp h1
      exact .base (.lst hH)
    · cases e
  · cases e
/-- isinstance's answer for two built-in classes -/
def kit (a b : String) : Option Bool :=
  if a = b then some true
  else if (a ∈ ["NoneType", "bool", "int", "str", "tuple", "list"]) ∧ (b ∈ ["bool", "int", "str", "tuple", "list"]) then some (decide (a = "bool" ∧ b = "int")) else none
theorem kit_ok {K : Frg} {a b : String} {r : Bool} (h : kit a b = some r) : PySem.W.kitOne K (.type a) (.type b) = some r := by
  unfold kit at h
  split at h
  · rename_i e
    cases h
    subst e
    refine kit_ty ?_
    unfold kitB
    rw [if_pos (by simp)]
  · split at h
    · rename_i n q
      cases h
      refine kit_ty ?_
      obtain ⟨qa, qb⟩ := q
      simp only [List.mem_cons, List.not_mem_nil, or_false] at qa qb
      rcases qa with rfl | rfl | rfl | rfl | rfl | rfl <;> rcases qb with rfl | rfl | rfl | rfl | rfl <;> first | exact absurd rfl n | decide +kernel
    · cases h
def bIsi : MF := b2 fun t u S => match u with
  | .d (.ty b) => (tyD t S).bind fun a => (kit a b).map fun r => (.d (.bl r), S)
  | _ => none
theorem f_isi : CallF X (.builtin "isinstance") bIsi := by
  refine CallR.imp call_isi fun vs H Q ⟨F, ad, S, ts, t, S', r, rs, e, k⟩ => ?_
  have e2 := b2_some (show b2 _ ts S = some (t, S') from e)
  clear e
  obtain ⟨_, _, rfl, e⟩ := e2
  split at e
  · rename_i b
    obtain ⟨a, ea, e⟩ := bind_some e
    obtain ⟨c, ec, e⟩ := Option.map_eq_some_iff.mp e
    cases e
    obtain ⟨x, y, rfl, rx, ry⟩ := pair2 rs
    cases (show Rep _ F y (.ty b) from ry)
    exact ⟨x, .ty b, .type a, .type b, c, rfl, .ty b, tyD_ok r rx ea, kit_ok ec, k F ad H _ (.refl r) (Rep.bl _)⟩
  · cases e
theorem fe_ty {x : Str} {n : String} {u : Value} {pos : Pos} (hg : Gl X x) (hm : X.mg x = none) (hv : bootBuiltins x = some u) (r : RelV (.ty n) u) (hn : x ≠ "__name__" := by decide) (hd : (x == ("__debug__" : Str)) = false := by decide) : FE X (.Name x pos) (cK (.ty n)) :=
  fe_K (pe_bltn hg hm hv r hn hd) fun _ _ => .ty n
/-! ### any, all -/
def asB : T → Option Bool
  | .d (.bl b) => some b
  | _ => none
def bsOf (t : T) (S : Cs) : Option (List Bool) := match seqOf t S with
  | some (false, ts) => mapO asB ts
  | _ => none
theorem asB_ok {K : Frg} {F : Hp} {ad : List Addr} {v : V} {t : T} {i : Bool} (e : asB t = some i) (r : RepT K F ad v t) : v = .bl i := by
  unfold asB at e
  split at e
  · cases e; exact r.bl
  · cases e
theorem mapO_bl {K : Frg} {F : Hp} {ad : List Addr} : ∀ {vs : List V} {ts : List T} {ns : List Bool}, RepTs K F ad vs ts → mapO asB ts = some ns → vs = ns.map V.bl
  | _, _, _, .nil, e => by unfold mapO at e; cases e; rfl
  | _, _, _, .cons q r, e => by
    unfold mapO at e
    obtain ⟨p1, e1, e⟩ := bind_some e
    obtain ⟨pr, e2, e⟩ := Option.map_eq_some_iff.mp e
    cases e
    rw [asB_ok e1 q, mapO_bl r e2]
    rfl
theorem bsOf_ok {K : Frg} {F : Hp} {ad : List Addr} {S : Cs} {H : Hp} {v : V} {t : T} {ns : List Bool} (g : RelS K F ad S H) (r : RepT K F ad v t) (e : bsOf t S = some ns) : ∃ a, v = .ref a ∧ SqL K H a (ns.map V.bl) := by
  unfold bsOf at e
  split at e
  · rename_i ts h
    obtain ⟨a, vs, rfl, _, _, q, rr⟩ := seqOf_ok g r h
    have e2 := mapO_bl rr e
    rw [← e2]
    exact ⟨a, rfl, q rfl⟩
  · cases e
def bAny : MF := b1 fun t S => (bsOf t S).map fun ns => (.d (.bl (ns.any id)), S)
def bAll : MF := b1 fun t S => (bsOf t S).map fun ns => (.d (.bl (ns.all id)), S)
theorem f_any (hc : X.calm = true) : CallF X (.builtin "any") bAny := by
  refine CallR.imp (cr_any hc) fun vs H Q ⟨F, ad, S, ts, t, S', r, rs, e, k⟩ => ?_
  have e2 := b1_some (show b1 _ ts S = some (t, S') from e)
  clear e
  obtain ⟨_, rfl, e⟩ := e2
  obtain ⟨ns, hq, e⟩ := Option.map_eq_some_iff.mp e
  cases e
  obtain ⟨x, rfl, rx⟩ := pair1 rs
  obtain ⟨a, rfl, q⟩ := bsOf_ok r rx hq
  exact ⟨a, ns, rfl, q, k F ad H _ (.refl r) (Rep.bl _)⟩
theorem f_all (hc : X.calm = true) : CallF X (.builtin "all") bAll := by
  refine CallR.imp (cr_all hc) fun vs H Q ⟨F, ad, S, ts, t, S', r, rs, e, k⟩ => ?_
  have e2 := b1_some (show b1 _ ts S = some (t, S') from e)
  clear e
  obtain ⟨_, rfl, e⟩ := e2
  obtain ⟨ns, hq, e⟩ := Option.map_eq_some_iff.mp e
  cases e
  obtain ⟨x, rfl, rx⟩ := pair1 rs
  obtain ⟨a, rfl, q⟩ := bsOf_ok r rx hq
  exact ⟨a, ns, rfl, q, k F ad H _ (.refl r) (Rep.bl _)⟩
end
end FL
/-! FL: methods of lists, targets, statements, loops, comprehensions, defs. -/
namespace FL
open PySem PySem.Spec PyProof.Rows L2
section
variable {X : Cx}
/-! ### sorted of ints -/
def srt (ns : List Int) : List Int := ns.mergeSort (fun a b => decide (a ≤ b))
theorem srt_perm (ns : List Int) : (srt ns).Perm ns := List.mergeSort_perm _ _
theorem srt_le (ns : List Int) : (srt ns).Pairwise (· ≤ ·) := by
  have h := List.pairwise_mergeSort (le := fun a b : Int => decide (a ≤ b)) (fun a b c h1 h2 => by simp at *; omega) (fun a b => by simp; omega) ns
  exact h.imp fun h => by simpa using h
theorem srt_eq {ns ns' : List Int} (hp : ns'.Perm ns) (hs : ns'.Pairwise (· ≤ ·)) : ns' = srt ns :=
  (hp.trans (srt_perm ns).symm).eq_of_pairwise (fun x y _ _ h1 h2 => Int.le_antisymm h1 h2) hs (srt_le ns)
def bSortI : MF := b1 fun t S => (intsOf t S).map fun ns => (.own S.length, S ++ [.lst ((srt ns).map fun i => .d (.int i))])
theorem f_sortI : CallF X (.builtin "sorted") bSortI := by
  refine CallR.imp cr_sortedI fun vs H Q ⟨F, ad, S, ts, t, S', r, rs, e, k⟩ => ?_
  have e2 := b1_some (show b1 _ ts S = some (t, S') from e)
  clear e
  obtain ⟨_, rfl, e⟩ := e2
  obtain ⟨ns, hq, e⟩ := Option.map_eq_some_iff.mp e
  cases e
  obtain ⟨x, rfl, rx⟩ := pair1 rs
  obtain ⟨a, rfl, q⟩ := intsOf_ok r rx hq
  refine ⟨a, ns, rfl, q, fun ns' p h1 h2 hp => ?_⟩
  obtain ⟨g2, q2⟩ := new_lst r hp (scr_ts (K := X.K) (F := F) (ad := ad) ns')
  rw [srt_eq h1 h2] at g2 ⊢
  exact k _ _ _ _ g2 q2
/-! ### methods of lists -/
abbrev NF := T → List T → Cs → Option (T × Cs)
def rN (K : Frg) (g : NF) : V → List V → Hp → VK → Prop := fun x vs H Q => ∃ F ad S tx ts t S', RelS K F ad S H ∧ RepT K F ad x tx ∧ RepTs K F ad vs ts ∧ g tx ts S = some (t, S') ∧
  ∀ F' ad' H' v, Go K F ad H F' ad' H' S' → RepT K F' ad' v t → Q v H'
def MtF (X : Cx) (id : String) (g : NF) : Prop := MtR X id (rN X.K g)
theorem MtR.imp {id : String} {r r' : V → List V → Hp → VK → Prop} (h : MtR X id r) (w : ∀ x vs H Q, r' x vs H Q → r x vs H Q) : MtR X id r' := fun pins s σ H x xs v us Q I rx rs q => h pins s σ H x xs v us Q I rx rs (w _ _ _ _ q)
def isLst (t : T) (S : Cs) : Bool := match seqOf t S with
  | some (false, _) => true
  | _ => false
def cMt (g : NF) (fo : EF) (fs : AF) : EF := fun σ S => (fo σ S).bind fun p => if isLst p.1 p.2 = true then (fs σ p.2).bind fun q => g p.1 q.1 q.2 else none
theorem isLst_ok {K : Frg} {F : Hp} {ad : List Addr} {S : Cs} {H : Hp} {v : V} {t : T} (g : RelS K F ad S H) (r : RepT K F ad v t) (h : isLst t S = true) : tyV K "list" v H := by
  unfold isLst at h
  split at h
  · rename_i ts e
    obtain ⟨a, vs, rfl, _, _, q, _⟩ := seqOf_ok g r e
    exact .inl ⟨rfl, vs, q rfl⟩
  · cases h
section
variable {g : NF} {fo : EF} {fs : AF} {o e : Expr} {es : List Expr} {name : Str} {id : String} {apos cpos : Pos}
theorem fe_mt (slot : Slot "list" name id) (hty : typeOf (.builtin id) = pure (.type "method_descriptor")) (hm : MtF X id g) (ho : FE X o fo) (ha : FA X (e :: es) fs)
    (hbase : attributeBase o name X.env (eval o X.env) = eval o X.env := by rfl)
    (hfew : ((backTo cpos (starEach (e :: es) X.env)).all (fun x => !x.1) && (backToKw cpos (keywordEach [] X.env)).all (fun x => x.1.isSome)
      && decide ((e :: es).length + ([] : List Keyword).length + (if ([] : List Keyword).isEmpty then 0 else 1) < 30)) = true := by rfl)
    (hline : (apos.endLine == cpos.line) = true := by rfl) (hs : starEach (e :: es) X.env = (false, eval e X.env) :: starEach es X.env := by rfl) (hplain : (backTo cpos (starEach es X.env)).any (·.1) = false := by rfl) :
    FE X (.Call (.Attribute o name apos) (e :: es) [] cpos) (cMt g fo fs) := by
  refine PE.imp (pe_bm PySem.F.plainAttrs_list slot hty hm ho ha hbase hfew hline hs hplain) fun τ H Q ⟨F, ad, σ, S, t, S', r, so, e, k⟩ => ?_
  obtain ⟨⟨tx, S1⟩, e1, e⟩ := bind_some e
  simp only at e
  split at e
  · rename_i hl
    obtain ⟨⟨ts, S2⟩, e2, e⟩ := bind_some e
    exact ⟨F, ad, σ, S, tx, S1, r, so, e1, fun F1 ad1 H1 v g1 rx => ⟨isLst_ok g1.rel rx hl, F1, ad1, σ, S1, ts, S2, g1.rel, so.step g1.st, e2, fun F2 ad2 H2 vs g2 rs =>
      ⟨F2, ad2, S2, tx, ts, t, S', g2.rel, rx.step g2.st, rs, e, fun F3 ad3 H3 u g3 ru => k F3 ad3 H3 u ((g1.trans g2).trans g3) ru⟩⟩⟩
  · cases e
theorem fe_mt0 (slot : Slot "list" name id) (hty : typeOf (.builtin id) = pure (.type "method_descriptor")) (hm : MtF X id g) (ho : FE X o fo)
    (hbase : attributeBase o name X.env (eval o X.env) = eval o X.env := by rfl) (hline : (apos.endLine == cpos.line) = true := by rfl) : FE X (.Call (.Attribute o name apos) [] [] cpos) (cMt g fo aNil) := by
  refine PE.imp (pe_bm0 PySem.F.plainAttrs_list slot hty hm ho hbase hline) fun τ H Q ⟨F, ad, σ, S, t, S', r, so, e, k⟩ => ?_
  obtain ⟨⟨tx, S1⟩, e1, e⟩ := bind_some e
  simp only at e
  split at e
  · rename_i hl
    exact ⟨F, ad, σ, S, tx, S1, r, so, e1, fun F1 ad1 H1 v g1 rx => ⟨isLst_ok g1.rel rx hl,
      ⟨F1, ad1, S1, tx, [], t, S', g1.rel, rx, .nil, e, fun F3 ad3 H3 u g3 ru => k F3 ad3 H3 u (g1.trans g3) ru⟩⟩⟩
  · cases e
end
/-- what an own list holds -/
def ownOf (t : T) (S : Cs) : Option (Nat × List T) := match t with
  | .own p => (match S[p]? with
    | some (.lst ts) => some (p, ts)
    | _ => none)
  | _ => none
theorem ownOf_ok {K : Frg} {F : Hp} {ad : List Addr} {S : Cs} {H : Hp} {v : V} {t : T} {p : Nat} {ts : List T} (g : RelS K F ad S H) (r : RepT K F ad v t) (e : ownOf t S = some (p, ts)) :
    ∃ a vs, v = .ref a ∧ ad[p]? = some a ∧ S[p]? = some (.lst ts) ∧ F a = none ∧ H a = some (.lst vs) ∧ RepTs K F ad vs ts := by
  unfold ownOf at e
  split at e
  · rename_i q
    obtain ⟨a, hp, rfl⟩ := r
    split at e
    · rename_i us h1
      cases e
      obtain ⟨n, vs, hH, rs⟩ := g.cells p a _ hp h1
      exact ⟨a, vs, rfl, hp, h1, n, hH, rs⟩
    · cases e
  · cases e
theorem write_lst {K : Frg} {F : Hp} {ad : List Addr} {S : Cs} {H : Hp} {p : Nat} {a : Addr} {ts us : List T} {ws : List V} (g : RelS K F ad S H) (hp : ad[p]? = some a) (h1 : S[p]? = some (.lst ts)) (n : F a = none) (q : RepTs K F ad ws us) :
    Go K F ad H F ad (upd H a (.lst ws)) (S.set p (.lst us)) :=
  let ⟨r, s⟩ := g.write (o := .lst ws) (c := .lst us) hp h1 n ⟨n, ws, upd_same, q⟩
  ⟨s, r⟩
def mAppend : NF := fun x ts S => match ts with
  | [u] => (match ownOf x S with
    | some (p, us) => if us.length < sizeLine then some (.d .non, S.set p (.lst (us ++ [u]))) else none
    | none => none)
  | _ => none
theorem m_append : MtF X "list.append" mAppend := by
  refine MtR.imp (show MtR X "list.append" rAppend from mt_append) fun x vs H Q ⟨F, ad, S, tx, ts, t, S', r, rx, rs, e, k⟩ => ?_
  unfold mAppend at e
  split at e
  · rename_i u
    split at e
    · rename_i p us ho
      split at e
      · rename_i hl
        cases e
        obtain ⟨y, rfl, ry⟩ := pair1 rs
        obtain ⟨a, ws, rfl, hp, h1, n, hH, rr⟩ := ownOf_ok r rx ho
        refine ⟨a, ws, y, rfl, rfl, hH, by rw [Paired.length rr]; exact hl, ?_⟩
        exact k _ _ _ _ (write_lst r hp h1 n (Paired.append rr (.cons ry .nil))) Rep.non
      · cases e
    · cases e
  · cases e
def mExtend : NF := fun x ts S => match ts with
  | [u] => (match ownOf x S, lstOf u S with
    | some (p, us), some ws => if us.length + ws.length ≤ sizeLine then some (.d .non, S.set p (.lst (us ++ ws))) else none
    | _, _ => none)
  | _ => none
theorem m_extend : MtF X "list.extend" mExtend := by
  refine MtR.imp (show MtR X "list.extend" rExtend from mt_extend) fun x vs H Q ⟨F, ad, S, tx, ts, t, S', r, rx, rs, e, k⟩ => ?_
  unfold mExtend at e
  split at e
  · rename_i u
    split at e
    · rename_i p us ws ho hu
      split at e
      · rename_i hl
        cases e
        obtain ⟨y, rfl, ry⟩ := pair1 rs
        obtain ⟨a, zs, rfl, hp, h1, n, hH, rr⟩ := ownOf_ok r rx ho
        obtain ⟨b, ys, rfl, hb, ryy⟩ := lstOf_ok r ry hu
        refine ⟨a, b, zs, ys, rfl, rfl, hH, hb, by rw [Paired.length rr, Paired.length ryy]; exact hl, ?_⟩
        exact k _ _ _ _ (write_lst r hp h1 n (Paired.append rr ryy)) Rep.non
      · cases e
    · cases e
  · cases e
/-- xs.pop() -/
def mPop : NF := fun x ts S => match ts with
  | [] => (match ownOf x S with
    | some (p, us) => (us[us.length - 1]?).map fun u => (u, S.set p (.lst us.dropLast))
    | none => none)
  | _ => none
theorem Paired.dropLast {α β : Type} {R : α → β → Prop} {vs : List α} {ds : List β} (r : Paired R vs ds) : Paired R vs.dropLast ds.dropLast := by
  rw [List.dropLast_eq_take, List.dropLast_eq_take, Paired.length r]
  exact Paired.take _ r
theorem m_pop : MtF X "list.pop" mPop := by
  refine MtR.imp (show MtR X "list.pop" rPop from mt_pop) fun x vs H Q ⟨F, ad, S, tx, ts, t, S', r, rx, rs, e, k⟩ => ?_
  unfold mPop at e
  split at e
  · split at e
    · rename_i p us ho
      obtain ⟨u, hu, e⟩ := Option.map_eq_some_iff.mp e
      cases e
      obtain ⟨a, ws, rfl, hp, h1, n, hH, rr⟩ := ownOf_ok r rx ho
      obtain ⟨v, hv, rv⟩ := Paired.get rr hu
      refine ⟨a, ws, v, rfl, by cases rs; rfl, hH, by rw [Paired.length rr]; exact hv, ?_⟩
      exact k _ _ _ _ (write_lst r hp h1 n (Paired.dropLast rr)) rv
    · cases e
  · cases e
/-- xs.pop(i) -/
def mPopAt : NF := fun x ts S => match ts with
  | [i] => (match ownOf x S, asI i with
    | some (p, us), some i => (match seqIndex? i us.length with
      | some k => if -(2 ^ 63) ≤ i ∧ i < 2 ^ 63 then (us[k]?).map fun u => (u, S.set p (.lst (us.eraseIdx k))) else none
      | none => none)
    | _, _ => none)
  | _ => none
theorem Paired.eraseIdx {α β : Type} {R : α → β → Prop} : ∀ {vs : List α} {ds : List β} (n : Nat), Paired R vs ds → Paired R (vs.eraseIdx n) (ds.eraseIdx n)
  | _, _, _, .nil => .nil
  | _, _, 0, .cons _ t => t
  | _, _, n + 1, .cons q t => .cons q (Paired.eraseIdx n t)
theorem m_popAt : MtF X "list.pop" mPopAt := by
  refine MtR.imp (show MtR X "list.pop" rPopAt from mt_popAt) fun x vs H Q ⟨F, ad, S, tx, ts, t, S', r, rx, rs, e, k⟩ => ?_
  unfold mPopAt at e
  split at e
  · split at e
    · rename_i p us i ho hi
      split at e
      · rename_i j hj
        split at e
        · rename_i hb
          obtain ⟨u, hu, e⟩ := Option.map_eq_some_iff.mp e
          cases e
          obtain ⟨a, ws, rfl, hp, h1, n, hH, rr⟩ := ownOf_ok r rx ho
          obtain ⟨v, hv, rv⟩ := Paired.get rr hu
          obtain ⟨y, rfl, ry⟩ := pair1 rs
          refine ⟨a, ws, i, j, v, rfl, by rw [asI_ok hi ry], hH, hb.1, hb.2, by rw [Paired.length rr]; exact hj, hv, ?_⟩
          exact k _ _ _ _ (write_lst r hp h1 n (Paired.eraseIdx j rr)) rv
        · cases e
      · cases e
    · cases e
  · cases e
/-! ### targets -/
inductive Itm where
  | one (t : T) | tup (ts : List T)
def ItmOk (K : Frg) (F : Hp) (ad : List Addr) (v : V) : Itm → Prop
  | .one t => RepT K F ad v t
  | .tup ts => ∃ a vs, v = .ref a ∧ SqT K F a vs ∧ RepTs K F ad vs ts
/-- only the slots in is may differ -/
def Dif (is : List Nat) (τ τ' : L2.St) : Prop := τ'.length = τ.length ∧ ∀ j, j ∉ is → τ'[j]? = τ[j]?
theorem Dif.refl (is : List Nat) (τ : L2.St) : Dif is τ τ := ⟨rfl, fun _ _ => rfl⟩
theorem Dif.trans {is js : List Nat} {τ τ' τ'' : L2.St} (a : Dif is τ τ') (b : Dif js τ' τ'') : Dif (is ++ js) τ τ'' :=
  ⟨b.1.trans a.1, fun j h => (b.2 j fun z => h (List.mem_append_right _ z)).trans (a.2 j fun z => h (List.mem_append_left _ z))⟩
abbrev GF := Itm → Sg → Cs → Option (Sg × Cs)
abbrev GsF := List T → Sg → Cs → Option (Sg × Cs)
def tG (K : Frg) (is : List Nat) (g : GF) : TG := fun v τ H Q => ∃ F ad σ S it σ' S', RelS K F ad S H ∧ SlotsOk K F ad σ τ ∧ ItmOk K F ad v it ∧ g it σ S = some (σ', S') ∧
  ∀ τ' H' F' ad', Go K F ad H F' ad' H' S' → SlotsOk K F' ad' σ' τ' → Dif is τ τ' → Q τ' H'
def tGs (K : Frg) (is : List Nat) (g : GsF) : TGs := fun vs τ H Q => ∃ F ad σ S ts σ' S', RelS K F ad S H ∧ SlotsOk K F ad σ τ ∧ RepTs K F ad vs ts ∧ g ts σ S = some (σ', S') ∧
  ∀ τ' H' F' ad', Go K F ad H F' ad' H' S' → SlotsOk K F' ad' σ' τ' → Dif is τ τ' → Q τ' H'
def FG (X : Cx) (tg : Expr) (is : List Nat) (g : GF) : Prop := PG X tg (tG X.K is g)
def FGs (X : Cx) (tg : List Expr) (is : List Nat) (g : GsF) : Prop := PGs X tg (tGs X.K is g)
theorem PG.imp {tg : Expr} {t t' : TG} (h : PG X tg t) (w : ∀ v τ H Q, t' v τ H Q → t v τ H Q) : PG X tg t' := ⟨fun pins s σ H v u Q I r q => h.run pins s σ H v u Q I r (w _ _ _ _ q)⟩
theorem PGs.imp {tg : List Expr} {t t' : TGs} (h : PGs X tg t) (w : ∀ v τ H Q, t' v τ H Q → t v τ H Q) : PGs X tg t' := ⟨fun pins s σ H v u Q I r q => h.run pins s σ H v u Q I r (w _ _ _ _ q)⟩
def gN (i : Nat) : GF := fun it σ S => match it with
  | .one t => some (σ.set i (some t), S)
  | .tup ts => (toDs ts S).map fun q => (σ.set i (some (.d (.tup q.1))), q.2)
theorem set_dif (τ : L2.St) (i : Nat) (v : V) : Dif [i] τ (τ.set i (some v)) := ⟨by simp, fun j h => by rw [List.getElem?_set_ne (fun e => h (by simp [e]))]⟩
theorem fg_name (i : Nat) {x : Str} {pos : Pos} (hN : X.N.Nodup) (hi : X.N[i]? = some x := by rfl) (hx : Loc X.env.scope x := by first | exact Or.inl rfl | exact Or.inr rfl) (hf : X.fn x = true ∨ X.env.scope.names.lookup x = some .local := by first | exact .inl rfl | exact .inr rfl | assumption) : FG X (.Name x pos) [i] (gN i) := by
  refine PG.imp (pg_name hN hi hx hf) fun v τ H Q ⟨F, ad, σ, S, it, σ', S', r, so, ri, e, k⟩ => ?_
  cases it with
  | one t =>
    cases e
    exact k _ H F ad (.refl r) (so.set ri i) (set_dif _ _ _)
  | tup ts =>
    obtain ⟨a, vs, rfl, q, rs⟩ := ri
    obtain ⟨⟨ds, S1⟩, e1, e⟩ := Option.map_eq_some_iff.mp e
    cases e
    obtain ⟨F1, g1, p1⟩ := toDs_ok r rs e1
    exact k _ H F1 ad g1.go ((so.step g1.st).set (t := .d (.tup ds)) (Rep.tup (SqT.sub g1.st.fsub q) p1) i) (set_dif _ _ _)
def gNil : GsF := fun ts σ S => match ts with
  | [] => some (σ, S)
  | _ => none
def gCons (g : GF) (gs : GsF) : GsF := fun ts σ S => match ts with
  | t :: r => (g (.one t) σ S).bind fun q => gs r q.1 q.2
  | [] => none
theorem fgs_nil : FGs X [] [] gNil := by
  refine PGs.imp pgs_nil fun v τ H Q ⟨F, ad, σ, S, ts, σ', S', r, so, rs, e, k⟩ => ?_
  unfold gNil at e
  split at e
  · cases e
    cases rs
    exact ⟨rfl, k τ H F ad (.refl r) so (.refl _ _)⟩
  · cases e
theorem fgs_cons {e : Expr} {es : List Expr} {is js : List Nat} {g : GF} {gs : GsF} (h1 : FG X e is g) (h2 : FGs X es js gs)
    (hs : (assignEach (e :: es) X.env).map (·.2) = assign e X.env :: (assignEach es X.env).map (·.2) := by rfl) : FGs X (e :: es) (is ++ js) (gCons g gs) := by
  refine PGs.imp (pgs_cons h1 h2 hs) fun v τ H Q ⟨F, ad, σ, S, ts, σ', S', r, so, rs, e, k⟩ => ?_
  unfold gCons at e
  split at e
  · rename_i t tr
    cases rs with
    | cons q qr =>
      obtain ⟨⟨σ1, S1⟩, e1, e⟩ := bind_some e
      exact ⟨_, _, rfl, F, ad, σ, S, .one t, σ1, S1, r, so, q, e1, fun τ1 H1 F1 ad1 g1 so1 d1 => ⟨F1, ad1, σ1, S1, tr, σ', S', g1.rel, so1, RepTs.step g1.st qr, e, fun τ2 H2 F2 ad2 g2 so2 d2 => k τ2 H2 F2 ad2 (g1.trans g2) so2 (d1.trans d2)⟩⟩
  · cases e
/-- the parts of an item that is a tuple -/
def partsOf (it : Itm) (S : Cs) : Option (List T) := match it with
  | .tup ts => some ts
  | .one t => (asT t S).map fun ds => ds.map .d
theorem partsOf_ok {K : Frg} {F : Hp} {ad : List Addr} {S : Cs} {H : Hp} {v : V} {it : Itm} {ts : List T} (g : RelS K F ad S H) (r : ItmOk K F ad v it) (e : partsOf it S = some ts) : ∃ a vs, v = .ref a ∧ SqT K F a vs ∧ RepTs K F ad vs ts := by
  cases it with
  | tup us => cases e; exact r
  | one t =>
    obtain ⟨ds, e1, e⟩ := Option.map_eq_some_iff.mp e
    cases e
    obtain ⟨a, vs, rfl, q, rs⟩ := asT_ok g r e1
    exact ⟨a, vs, rfl, q, rs.ts⟩
def gT (n : Nat) (gs : GsF) : GF := fun it σ S => (partsOf it S).bind fun ts => if ts.length = n then gs ts σ S else none
theorem fg_tup {es : List Expr} {k : Nat} {is : List Nat} {gs : GsF} {n : Nat} {pos : Pos} (hc : X.calm = true) (h : FGs X es is gs)
    (hn : (assignEach es X.env).length = n := by rfl) (hst : (assignEach es X.env).findIdx? (·.1) = none := by rfl) : FG X (.Tuple es k pos) is (gT n gs) := by
  refine PG.imp (pg_tup hc h hn hst) fun v τ H Q ⟨F, ad, σ, S, it, σ', S', r, so, ri, e, k⟩ => ?_
  obtain ⟨ts, e1, e⟩ := bind_some e
  split at e
  · rename_i hl
    obtain ⟨a, vs, rfl, q, rs⟩ := partsOf_ok r ri e1
    exact ⟨a, vs, rfl, SqT.sub r.sub q, by rw [Paired.length rs]; exact hl, F, ad, σ, S, ts, σ', S', r, so, rs, e, k⟩
  · cases e
/-! ### statements -/
def cSeq (f g : SF) : SF := fun σ S => (f σ S).bind fun o => match o.1 with
  | .nx => g o.2.1 o.2.2
  | _ => some o
def cNx : SF := fun σ S => some (.nx, σ, S)
theorem Fin.go {K : Frg} {F F1 : Hp} {ad ad1 : List Addr} {H H1 : Hp} {S1 : Cs} {D : Ends} {o : Fl × Sg × Cs} (f : Fin K F ad H D o) (g : Go K F ad H F1 ad1 H1 S1) : Fin K F1 ad1 H1 D o := by
  obtain ⟨fl, σ, S⟩ := o
  cases fl with
  | nx => exact fun F' ad' H' τ' g' so => f F' ad' H' τ' (g.trans g') so
  | bk => exact fun F' ad' H' τ' g' so => f F' ad' H' τ' (g.trans g') so
  | ct => exact fun F' ad' H' τ' g' so => f F' ad' H' τ' (g.trans g') so
  | rt t => exact fun F' ad' H' v g' rv => f F' ad' H' v (g.trans g') rv
section
variable {st : Stmt} {rest : List Stmt} {f g : SF} {e : Expr} {fe : EF} {pos : Pos}
theorem fss_nil : FSs X [] cNx := PSs.imp pss_nil fun D τ H ⟨F, ad, σ, S, o, r, so, e, k⟩ => by
  cases e
  exact k F ad H τ (.refl r) so
theorem fss_cons (h1 : FS X st f) (h2 : FSs X rest g) : FSs X (st :: rest) (cSeq f g) := by
  refine PSs.imp (pss_cons h1 h2) fun D τ H ⟨F, ad, σ, S, o, r, so, e, k⟩ => ?_
  obtain ⟨⟨fl, σ1, S1⟩, e1, e⟩ := bind_some e
  refine ⟨F, ad, σ, S, _, r, so, e1, ?_⟩
  cases fl with
  | nx => exact fun F1 ad1 H1 τ1 g1 so1 => ⟨F1, ad1, σ1, S1, o, g1.rel, so1, e, k.go g1⟩
  | bk => cases e; exact k
  | ct => cases e; exact k
  | rt t => cases e; exact k
theorem fss_one (h1 : FS X st f) : FSs X [st] f := pss_one h1
theorem fs_pass : FS X (.Pass pos) cNx := PS.imp ps_pass fun D τ H ⟨F, ad, σ, S, o, r, so, e, k⟩ => by
  cases e
  exact k F ad H τ (.refl r) so
def cBk : SF := fun σ S => some (.bk, σ, S)
def cCt : SF := fun σ S => some (.ct, σ, S)
theorem fs_break : FS X (.Break pos) cBk := PS.imp ps_break fun D τ H ⟨F, ad, σ, S, o, r, so, e, k⟩ => by
  cases e
  exact k F ad H τ (.refl r) so
theorem fs_continue : FS X (.Continue pos) cCt := PS.imp ps_continue fun D τ H ⟨F, ad, σ, S, o, r, so, e, k⟩ => by
  cases e
  exact k F ad H τ (.refl r) so
/-- never reached -/
def cNever : SF := fun _ _ => none
theorem fs_never : FS X st cNever := PS.imp ps_never fun D τ H ⟨F, ad, σ, S, o, r, so, e, k⟩ => by cases e
theorem fss_never {sts : List Stmt} : FSs X sts cNever := PSs.imp pss_never fun D τ H ⟨F, ad, σ, S, o, r, so, e, k⟩ => by cases e
theorem fs_doc {x j pos'} : FS X (.Expr (.Constant (.str x) j pos') pos) cNx := PS.imp ps_doc fun D τ H ⟨F, ad, σ, S, o, r, so, e, k⟩ => by
  cases e
  exact k F ad H τ (.refl r) so
def cDrop (f : EF) : SF := fun σ S => (f σ S).map fun p => (.nx, σ, p.2)
theorem fs_expr (he : FE X e fe) (hs : swapsWith e none pos.line X.env = pure false := by rfl) : FS X (.Expr e pos) (cDrop fe) := by
  refine PS.imp (ps_expr he hs) fun D τ H ⟨F, ad, σ, S, o, r, so, e, k⟩ => ?_
  obtain ⟨⟨t, S1⟩, e1, e⟩ := Option.map_eq_some_iff.mp e
  cases e
  exact ⟨F, ad, σ, S, t, S1, r, so, e1, fun F1 ad1 H1 v g1 rv => k F1 ad1 H1 τ g1 (so.step g1.st)⟩
def cRet (f : EF) : SF := fun σ S => (f σ S).map fun p => (.rt p.1, σ, p.2)
theorem fs_ret (he : FE X e fe) : FS X (.Return (some e) pos) (cRet fe) := by
  refine PS.imp (ps_ret he) fun D τ H ⟨F, ad, σ, S, o, r, so, e, k⟩ => ?_
  obtain ⟨⟨t, S1⟩, e1, e⟩ := Option.map_eq_some_iff.mp e
  cases e
  exact ⟨F, ad, σ, S, t, S1, r, so, e1, fun F1 ad1 H1 v g1 rv => k F1 ad1 H1 v g1 rv⟩
def cRetN : SF := fun σ S => some (.rt (.d .non), σ, S)
theorem fs_retN : FS X (.Return none pos) cRetN := PS.imp ps_retN fun D τ H ⟨F, ad, σ, S, o, r, so, e, k⟩ => by
  cases e
  exact k F ad H .non (.refl r) Rep.non
def cIfS (c : BF) (f g : SF) : SF := fun σ S => (c σ S).bind fun p => if p.1 = true then f σ p.2 else g σ p.2
theorem fs_if {c : Expr} {a b : List Stmt} {fc : BF} (hc : FB X c fc) (ha : FSs X a f) (hb : FSs X b g) : FS X (.If c a b pos) (cIfS fc f g) := by
  refine PS.imp (ps_if hc ha hb) fun D τ H ⟨F, ad, σ, S, o, r, so, e, k⟩ => ?_
  obtain ⟨⟨c1, S1⟩, e1, e⟩ := bind_some e
  refine ⟨F, ad, σ, S, c1, S1, r, so, e1, fun F1 ad1 H1 g1 => ?_⟩
  cases c1 with
  | true => exact ⟨F1, ad1, σ, S1, o, g1.rel, so.step g1.st, e, k.go g1⟩
  | false => exact ⟨F1, ad1, σ, S1, o, g1.rel, so.step g1.st, e, k.go g1⟩
def cSet (i : Nat) (f : EF) : SF := fun σ S => (f σ S).map fun p => (.nx, σ.set i (some p.1), p.2)
theorem fs_set (i : Nat) {x : Str} {pos' : Pos} (he : FE X e fe) (hN : X.N.Nodup) (hi : X.N[i]? = some x := by rfl) (hx : Loc X.env.scope x := by first | exact Or.inl rfl | exact Or.inr rfl) (hs : swapsWith e (some (.Name x pos')) pos.line X.env = pure false := by rfl)
    (hf : X.fn x = true ∨ X.env.scope.names.lookup x = some .local := by first | exact .inl rfl | exact .inr rfl | assumption) : FS X (.Assign [.Name x pos'] e pos) (cSet i fe) := by
  refine PS.imp (ps_set hN hi hx he hs hf) fun D τ H ⟨F, ad, σ, S, o, r, so, e, k⟩ => ?_
  obtain ⟨⟨t, S1⟩, e1, e⟩ := Option.map_eq_some_iff.mp e
  cases e
  exact ⟨F, ad, σ, S, t, S1, r, so, e1, fun F1 ad1 H1 v g1 rv => k F1 ad1 H1 _ g1 ((so.step g1.st).set rv i)⟩
/-- a, b = e -/
def cAsgT (g : GF) (f : EF) : SF := fun σ S => (f σ S).bind fun p => (g (.one p.1) σ p.2).map fun q => (.nx, q.1, q.2)
theorem fs_asgT {tg : Expr} {is : List Nat} {gt : GF} (he : FE X e fe) (hg : FG X tg is gt) (hs : swapsWithSole [tg] e pos.line X.env = pure false := by rfl) (hw : swappedStores [tg] e X.env = pure none := by rfl)
    (h1 : (assignEach [tg] X.env).map (·.2) = [assign tg X.env] := by rfl) : FS X (.Assign [tg] e pos) (cAsgT gt fe) := by
  refine PS.imp (ps_asg he hg hs hw h1) fun D τ H ⟨F, ad, σ, S, o, r, so, e, k⟩ => ?_
  obtain ⟨⟨t, S1⟩, e1, e⟩ := bind_some e
  obtain ⟨⟨σ2, S2⟩, e2, e⟩ := Option.map_eq_some_iff.mp e
  cases e
  exact ⟨F, ad, σ, S, t, S1, r, so, e1, fun F1 ad1 H1 v g1 rv => ⟨F1, ad1, σ, S1, .one t, σ2, S2, g1.rel, so.step g1.st, rv, e2, fun τ' H' F' ad' g2 so2 _ => k F' ad' H' τ' (g1.trans g2) so2⟩⟩
/-- o[i] = e -/
def cSub (fo fi f : EF) : SF := fun σ S => (f σ S).bind fun p => (fo σ p.2).bind fun q => (fi σ q.2).bind fun u => match ownOf q.1 u.2, asI u.1 with
  | some (k, ts), some i => (ixN ts.length i).map fun j => (.nx, σ, u.2.set k (.lst (ts.set j p.1)))
  | _, _ => none
theorem fs_sub {o i : Expr} {fo fi : EF} {pos' : Pos} (he : FE X e fe) (ho : FE X o fo) (hi : FE X i fi)
    (ha : ∀ v, assign (.Subscript o i pos') X.env v = (do
      let ov ← holding [v] (eval o X.env)
      let iv ← holding [v, ov] (eval i X.env)
      standAt pos'
      holding [v, ov, iv] (setItem ov iv v)
      release [v, ov, iv] []) := by intro _; rfl)
    (hs : swapsWithSole [.Subscript o i pos'] e pos.line X.env = pure false := by rfl) (hw : swappedStores [.Subscript o i pos'] e X.env = pure none := by rfl)
    (h1 : (assignEach [.Subscript o i pos'] X.env).map (·.2) = [assign (.Subscript o i pos') X.env] := by rfl) : FS X (.Assign [.Subscript o i pos'] e pos) (cSub fo fi fe) := by
  refine PS.imp (ps_asg he (pg_sub ho hi set_list ha) hs hw h1) fun D τ H ⟨F, ad, σ, S, o, r, so, e, k⟩ => ?_
  obtain ⟨⟨t, S1⟩, e1, e⟩ := bind_some e
  obtain ⟨⟨tq, S2⟩, e2, e⟩ := bind_some e
  obtain ⟨⟨ti, S3⟩, e3, e⟩ := bind_some e
  simp only at e
  split at e
  · rename_i p ts i ho hi
    obtain ⟨j, hj, e⟩ := Option.map_eq_some_iff.mp e
    cases e
    refine ⟨F, ad, σ, S, t, S1, r, so, e1, fun F1 ad1 H1 v g1 rv => ⟨F1, ad1, σ, S1, tq, S2, g1.rel, so.step g1.st, e2, fun F2 ad2 H2 w g2 rw => ⟨F2, ad2, σ, S2, ti, S3, g2.rel, so.step (g1.trans g2).st, e3, fun F3 ad3 H3 u g3 ru => ?_⟩⟩⟩
    obtain ⟨a, ws, rfl, hp, h1, n, hH, rr⟩ := ownOf_ok g3.rel (rw.step g3.st) ho
    refine ⟨a, ws, i, j, rfl, asI_ok hi ru, hH, by rw [Paired.length rr]; exact hj, ?_⟩
    have g4 := write_lst g3.rel hp h1 n (Paired.set (rv.step (g2.trans g3).st) j rr)
    exact k _ _ _ τ (((g1.trans g2).trans g3).trans g4) (so.step (((g1.trans g2).trans g3).trans g4).st)
  · cases e
/-- x op= e -/
def cAug (i : Nat) (g : OF) (f : EF) : SF := fun σ S => (cV i σ S).bind fun p => (f σ p.2).bind fun q => (g p.1 q.1 q.2).map fun u => (.nx, σ.set i (some u.1), u.2)
theorem fs_aug (i : Nat) {x : Str} {pos' : Pos} {op : Operator} {g : OF} (ho : OpF X (inplaceOp op) g) (he : FE X e fe) (hN : X.N.Nodup) (hi : X.N[i]? = some x := by rfl) (hx : Loc X.env.scope x := by first | exact Or.inl rfl | exact Or.inr rfl)
    (hf : X.fn x = true ∨ X.env.scope.names.lookup x = some .local := by first | exact .inl rfl | exact .inr rfl | assumption) : FS X (.AugAssign (.Name x pos') op e pos) (cAug i g fe) := by
  refine PS.imp (ps_aug hN hi hx he (show PIp X op (r2 X.K g) from fun pins s σ H x y v u Q I rx ry q => ho pins s σ H x y v u Q I rx ry q) hf) fun D τ H ⟨F, ad, σ, S, o, r, so, e, k⟩ => ?_
  obtain ⟨⟨t, S1⟩, e1, e⟩ := bind_some e
  obtain ⟨⟨tq, S2⟩, e2, e⟩ := bind_some e
  obtain ⟨⟨tu, S3⟩, e3, e⟩ := Option.map_eq_some_iff.mp e
  cases e
  unfold cV at e1
  split at e1
  · rename_i t0 h0
    cases e1
    obtain ⟨v, hv, rv⟩ := so.2 i _ h0
    exact ⟨v, hv, F, ad, σ, S, tq, S2, r, so, e2, fun F2 ad2 H2 w g2 rw => ⟨F2, ad2, S2, t, tq, tu, S3, g2.rel, rv.step g2.st, rw, e3, fun F3 ad3 H3 u g3 ru => k F3 ad3 H3 _ (g2.trans g3) ((so.step (g2.trans g3).st).set ru i)⟩⟩
  · cases e1
end
end
end FL
/-! FL: loops, comprehensions, defs. -/
namespace FL
open PySem PySem.Spec PyProof.Rows L2
open Classical in
section
variable {X : Cx}
abbrev Gs := List (Nat × List T)
/-- the lists that are walked stand as they stood -/
def gOk : Gs → Cs → Prop
  | [], _ => True
  | g :: r, S => S[g.1]? = some (.lst g.2) ∧ gOk r S
abbrev IF := Sg → Cs → Option (List Itm × Gs × Cs)
def IterOk (K : Frg) (F0 : Hp) (ad0 : List Addr) (H0 : Hp) (J : It) (items : List Itm) (gs : Gs) : Prop := ∀ F ad S H, Step F0 ad0 H0 F ad H → RelS K F ad S H → gOk gs S → ∀ i : Nat,
  (items.length ≤ i → J.stop i H) ∧ (∀ it, items[i]? = some it → J.go i H ∧ ∀ x H', J.yld i H x H' → ∃ F', Go K F ad H F' ad H' S ∧ ItmOk K F' ad x it)
def tI (K : Frg) (f : IF) : TI := fun τ H R => ∃ F ad σ S items gs S', RelS K F ad S H ∧ SlotsOk K F ad σ τ ∧ f σ S = some (items, gs, S') ∧
  ∀ F' ad' H' J, Go K F ad H F' ad' H' S' → IterOk K F' ad' H' J items gs → R J H'
def FI (X : Cx) (tg iter : Expr) (f : IF) : Prop := PI X tg iter (tI X.K f)
theorem PI.imp {tg it : Expr} {t t' : TI} (h : PI X tg it t) (w : ∀ τ H R, t' τ H R → t τ H R) : PI X tg it t' := ⟨fun pins s σ H R I q => h.run pins s σ H R I (w _ _ _ q)⟩
/-! ### what is walked -/
def iSeq (K : Frg) (tl : TE) : TI := fun σ H R => tl σ H fun x H1 => (∃ a, x = .ref a ∧ (∃ xs, SqL K H1 a xs) ∧ R (Itl K a) H1) ∨ (∃ a, x = .ref a ∧ (∃ xs, SqT K H1 a xs) ∧ R (Itt K a) H1)
theorem pi_seq {tg l : Expr} {tl : TE} (hl : PE X l tl) : PI X tg l (iSeq X.K tl) := by
  refine ⟨fun pins s σ H R I h => ?_⟩
  refine thn (hl.run pins s σ H _ I h) fun v s1 ⟨x, H1, I1, r1, q1⟩ => ?_
  rcases q1 with ⟨a, e, ⟨xs, hq⟩, q⟩ | ⟨a, e, ⟨xs, hq⟩, q⟩
  · subst e
    cases r1
    obtain ⟨its, rv, p, hz⟩ := I1.list hq
    refine wpAny_pyIter_list p.isList ?_
    refine ⟨s1.heap.objs.size, [s1.heap.objs.size], _, _, H1, rfl, I1.kept (t' := s1.toks) fun b o e => Heap.get?_push_of_some _ e, turn_list a _, ⟨_, Heap.get?_push_size _ rfl, rfl, rfl⟩, fun b hb => ?_, q⟩
    have e : b = s1.heap.objs.size := by simpa using hb
    subst e
    exact I1.fpOk (Nat.le_refl _) (I1.hok.fresh (Nat.le_refl _))
  · subst e
    cases r1
    obtain ⟨its, rv, p, hz⟩ := I1.tuple hq
    refine wpAny_pyIter_tuple (show s1.heap.IsTuple a its.toArray from p) ?_
    refine ⟨s1.heap.objs.size, [s1.heap.objs.size], _, _, H1, rfl, I1.kept (t' := s1.toks) fun b o e => Heap.get?_push_of_some _ e, turn_tuple a _, ⟨_, Heap.get?_push_size _ rfl, rfl, rfl⟩, fun b hb => ?_, q⟩
    have e : b = s1.heap.objs.size := by simpa using hb
    subst e
    exact I1.fpOk (Nat.le_refl _) (I1.hok.fresh (Nat.le_refl _))
/-- a sequence and what must stand while it is walked -/
def seqG (t : T) (S : Cs) : Option (Bool × List T × Gs) := match deref t S with
  | .d (.tup ds) => some (true, ds.map .d, [])
  | .d (.lst ds) => some (false, ds.map .d, [])
  | .d (.scr ns) => some (false, ns.map fun i => .d (.int i), [])
  | .own p => (match S[p]? with
    | some (.lst ts) => some (false, ts, [(p, ts)])
    | _ => none)
  | _ => none
/-- at every later state the sequence is there, with items that ts tells -/
theorem seqG_ok {K : Frg} {F : Hp} {ad : List Addr} {S : Cs} {H : Hp} {v : V} {t : T} {b : Bool} {ts : List T} {gs : Gs} (g : RelS K F ad S H) (r : RepT K F ad v t) (e : seqG t S = some (b, ts, gs)) :
    ∃ a, v = .ref a ∧ ∀ F' ad' S' H', Step F ad H F' ad' H' → RelS K F' ad' S' H' → gOk gs S' → ∃ vs, (b = true → SqT K H' a vs) ∧ (b = false → SqL K H' a vs) ∧ RepTs K F' ad' vs ts := by
  have r := deref_ok g r
  unfold seqG at e
  split at e
  · rename_i ds h0
    rw [h0] at r
    cases e
    cases (show Rep K F v (.tup ds) from r) with
    | tup q rs => exact ⟨_, rfl, fun F' ad' S' H' st g' _ => ⟨_, fun _ => SqT.sub g'.sub (SqT.sub st.fsub q), fun z => (Bool.noConfusion z), (rs.mono st.fsub).ts⟩⟩
  · rename_i ds h0
    rw [h0] at r
    cases e
    cases (show Rep K F v (.lst ds) from r) with
    | lst q rs => exact ⟨_, rfl, fun F' ad' S' H' st g' _ => ⟨_, fun z => (Bool.noConfusion z), fun _ => .of (g'.sub _ _ (st.fsub _ _ q)), (rs.mono st.fsub).ts⟩⟩
  · rename_i ds h0
    rw [h0] at r
    cases e
    cases (show Rep K F v (.scr ds) from r) with
    | scr q => exact ⟨_, rfl, fun F' ad' S' H' st g' _ => ⟨_, fun z => (Bool.noConfusion z), fun _ => SqL.sub g'.sub (SqL.sub st.fsub q), scr_ts ds⟩⟩
  · rename_i p h0
    rw [h0] at r
    obtain ⟨a, hp, rfl⟩ := r
    split at e
    · rename_i us h1
      cases e
      refine ⟨a, rfl, fun F' ad' S' H' st g' ok => ?_⟩
      obtain ⟨l, el, _⟩ := st.adx
      have hp' : ad'[p]? = some a := by
        rw [el, List.getElem?_append_left (List.getElem?_eq_some_iff.mp hp).1]; exact hp
      obtain ⟨_, vs, hH, rs⟩ := g'.cells p a _ hp' ok.1
      exact ⟨vs, fun z => (Bool.noConfusion z), fun _ => .of hH, rs⟩
    · cases e
  · cases e
theorem gOk_now {t : T} {S : Cs} {b : Bool} {ts : List T} {gs : Gs} (e : seqG t S = some (b, ts, gs)) : gOk gs S := by
  unfold seqG at e
  split at e
  · cases e; trivial
  · cases e; trivial
  · cases e; trivial
  · split at e
    · rename_i h1
      cases e
      exact ⟨h1, trivial⟩
    · cases e
  · cases e
def iE (f : EF) : IF := fun σ S => (f σ S).bind fun p => (seqG p.1 p.2).map fun q => (q.2.1.map .one, q.2.2, p.2)
theorem fi_seq {tg l : Expr} {f : EF} (hl : FE X l f) : FI X tg l (iE f) := by
  refine PI.imp (pi_seq hl) fun τ H R ⟨F, ad, σ, S, items, gs, S', r, so, e, k⟩ => ?_
  obtain ⟨⟨t, S1⟩, e1, e⟩ := bind_some e
  obtain ⟨⟨b, ts, gs'⟩, e2, e⟩ := Option.map_eq_some_iff.mp e
  cases e
  refine ⟨F, ad, σ, S, t, S1, r, so, e1, fun F1 ad1 H1 v g1 rv => ?_⟩
  obtain ⟨a, rfl, hk⟩ := seqG_ok g1.rel rv e2
  -- the list stands now, too
  have now : ∃ vs, (b = true → SqT X.K H1 a vs) ∧ (b = false → SqL X.K H1 a vs) := by
    have g0 := gOk_now e2
    obtain ⟨vs, h1, h2, _⟩ := hk F1 ad1 S1 H1 .refl g1.rel g0
    exact ⟨vs, h1, h2⟩
  cases b with
  | false =>
    obtain ⟨vs, _, h2⟩ := now
    refine .inl ⟨a, rfl, ⟨vs, h2 rfl⟩, k F1 ad1 H1 _ g1 fun F' ad' S' H' st g' ok i => ?_⟩
    obtain ⟨ws, _, w2, w3⟩ := hk F' ad' S' H' st g' ok
    refine ⟨fun hl => ⟨ws, w2 rfl, by rw [Paired.length w3]; simpa using hl⟩, fun it hi => ?_⟩
    rw [List.getElem?_map] at hi
    obtain ⟨u, hu, rfl⟩ := Option.map_eq_some_iff.mp hi
    obtain ⟨x, hx, rx⟩ := Paired.get w3 hu
    refine ⟨⟨ws, x, w2 rfl, hx⟩, fun y H'' hy => ?_⟩
    obtain ⟨rfl, hy⟩ := hy
    have e : y = x := Option.some.inj ((hy ws (w2 rfl)).symm.trans hx)
    subst e
    exact ⟨F', .refl g', rx⟩
  | true =>
    obtain ⟨vs, h1, _⟩ := now
    refine .inr ⟨a, rfl, ⟨vs, h1 rfl⟩, k F1 ad1 H1 _ g1 fun F' ad' S' H' st g' ok i => ?_⟩
    obtain ⟨ws, w1, _, w3⟩ := hk F' ad' S' H' st g' ok
    refine ⟨fun hl => ⟨ws, w1 rfl, by rw [Paired.length w3]; simpa using hl⟩, fun it hi => ?_⟩
    rw [List.getElem?_map] at hi
    obtain ⟨u, hu, rfl⟩ := Option.map_eq_some_iff.mp hi
    obtain ⟨x, hx, rx⟩ := Paired.get w3 hu
    refine ⟨⟨ws, x, w1 rfl, hx⟩, fun y H'' hy => ?_⟩
    obtain ⟨rfl, hy⟩ := hy
    have e : y = x := Option.some.inj ((hy ws (w1 rfl)).symm.trans hx)
    subst e
    exact ⟨F', .refl g', rx⟩
/-- lo, lo + 1, .. below hi -/
def rangeL (lo hi : Int) : List Int := (List.range (hi - lo).toNat).map fun i => lo + (i : Nat)
def inR (i : Int) : Prop := -(2 ^ 62) ≤ i ∧ i < 2 ^ 62
instance (i : Int) : Decidable (inR i) := by unfold inR; infer_instance
def itR (lo hi : Int) : List Itm := (rangeL lo hi).map fun i => .one (.d (.int i))
def iR (lo hi : Int) (S : Cs) : Option (List Itm × Gs × Cs) := if inR lo ∧ inR hi then some (itR lo hi, [], S) else none
def iRange1 (fs : AF) : IF := fun σ S => (fs σ S).bind fun p => match p.1 with
  | [t] => (asI t).bind fun j => iR 0 j p.2
  | _ => none
def iRange2 (fs : AF) : IF := fun σ S => (fs σ S).bind fun p => match p.1 with
  | [t, u] => (match asI t, asI u with
    | some i, some j => iR i j p.2
    | _, _ => none)
  | _ => none
theorem itr_ok {K : Frg} {F0 : Hp} {ad0 : List Addr} {H0 : Hp} (lo hi : Int) : IterOk K F0 ad0 H0 (Itr lo (hi - lo).toNat) (itR lo hi) [] := fun F ad S H st g ok i => by
  unfold itR rangeL
  refine ⟨fun hl => ?_, fun it hi => ?_⟩
  · show (hi - lo).toNat ≤ i
    rw [List.length_map, List.length_map, List.length_range] at hl
    exact hl
  rw [List.getElem?_map, List.getElem?_map] at hi
  obtain ⟨u, hu, rfl⟩ := Option.map_eq_some_iff.mp hi
  obtain ⟨j, hj, rfl⟩ := Option.map_eq_some_iff.mp hu
  obtain ⟨h1, h2⟩ := List.getElem?_eq_some_iff.mp hj
  rw [List.length_range] at h1
  rw [List.getElem_range] at h2
  subst h2
  refine ⟨h1, fun x H' hy => ?_⟩
  obtain ⟨rfl, rfl⟩ := hy
  exact ⟨F, .refl g, Rep.int _⟩
theorem fi_range1 {tg a : Expr} {fs : AF} {p pos : Pos} (hg : Gl X "range") (hm : X.mg "range" = none) (ha : FA X [a] fs) (hs : starEach [a] X.env = [(false, eval a X.env)] := by rfl) : FI X tg (.Call (.Name "range" p) [a] [] pos) (iRange1 fs) := by
  refine PI.imp (pi_range1 hg hm ha hs) fun τ H R ⟨F, ad, σ, S, items, gs, S', r, so, e, k⟩ => ?_
  obtain ⟨⟨ts, S1⟩, e1, e⟩ := bind_some e
  refine ⟨F, ad, σ, S, ts, S1, r, so, e1, fun F1 ad1 H1 vs g1 rs => ?_⟩
  simp only at e
  split at e
  · rename_i t
    obtain ⟨j, hj, e⟩ := bind_some e
    unfold iR at e
    split at e
    · rename_i hb
      cases e
      obtain ⟨x, rfl, rx⟩ := pair1 rs
      refine ⟨j, by rw [asI_ok hj rx], hb.2.1, hb.2.2, ?_⟩
      have q := itr_ok (K := X.K) (F0 := F1) (ad0 := ad1) (H0 := H1) 0 j
      rw [Int.sub_zero] at q
      exact k F1 ad1 H1 _ g1 q
    · cases e
  · cases e
theorem fi_range2 {tg a b : Expr} {fs : AF} {p pos : Pos} (hg : Gl X "range") (hm : X.mg "range" = none) (ha : FA X [a, b] fs) (hs : starEach [a, b] X.env = [(false, eval a X.env), (false, eval b X.env)] := by rfl) (hs2 : starEach [b] X.env = [(false, eval b X.env)] := by rfl) :
    FI X tg (.Call (.Name "range" p) [a, b] [] pos) (iRange2 fs) := by
  refine PI.imp (pi_range2 hg hm ha hs hs2) fun τ H R ⟨F, ad, σ, S, items, gs, S', r, so, e, k⟩ => ?_
  obtain ⟨⟨ts, S1⟩, e1, e⟩ := bind_some e
  refine ⟨F, ad, σ, S, ts, S1, r, so, e1, fun F1 ad1 H1 vs g1 rs => ?_⟩
  simp only at e
  split at e
  · split at e
    · rename_i i j hi hj
      unfold iR at e
      split at e
      · rename_i hb
        cases e
        obtain ⟨x, y, rfl, rx, ry⟩ := pair2 rs
        exact ⟨i, j, by rw [asI_ok hi rx, asI_ok hj ry], ⟨hb.1.1, hb.1.2, hb.2.1, hb.2.2⟩, k F1 ad1 H1 _ g1 (itr_ok i j)⟩
      · cases e
    · cases e
  · cases e
/-- enumerate(a list) -/
def iEnm (fs : AF) : IF := fun σ S => (fs σ S).bind fun p => match p.1 with
  | [t] => (match seqG t p.2 with
    | some (false, ts, gs) => some ((ts.mapIdx fun i u => .tup [.d (.int (i : Nat)), u]), gs, p.2)
    | _ => none)
  | _ => none
theorem tup_new {K : Frg} {F : Hp} {ad : List Addr} {S : Cs} {H : Hp} {a : Addr} {vs : List V} {ts : List T} (g : RelS K F ad S H) (hn : H a = none) (rs : RepTs K F ad vs ts) :
    ∃ F', Go K F ad H F' ad (upd H a (.tup vs)) S ∧ ItmOk K F' ad (.ref a) (.tup ts) := by
  obtain ⟨r3, s3⟩ := g.newF (o := .tup vs) hn
  exact ⟨_, ⟨s3, r3⟩, a, vs, rfl, .of upd_same, RepTs.step s3 rs⟩
theorem fi_enum {e : Expr} {fs : AF} {p pos tpos : Pos} {elts : List Expr} {kk : Nat} (hg : Gl X "enumerate") (hm : X.mg "enumerate" = none) (ha : FA X [e] fs) (hs : starEach [e] X.env = [(false, eval e X.env)] := by rfl) :
    FI X (.Tuple elts kk tpos) (.Call (.Name "enumerate" p) [e] [] pos) (iEnm fs) := by
  refine PI.imp (pi_enum hg hm ha hs) fun τ H R ⟨F, ad, σ, S, items, gs, S', r, so, e, k⟩ => ?_
  obtain ⟨⟨ts, S1⟩, e1, e⟩ := bind_some e
  refine ⟨F, ad, σ, S, ts, S1, r, so, e1, fun F1 ad1 H1 vs g1 rs => ?_⟩
  simp only at e
  split at e
  · split at e
    · rename_i us gs' hu
      cases e
      obtain ⟨x, rfl, rx⟩ := pair1 rs
      obtain ⟨a, rfl, hk⟩ := seqG_ok g1.rel rx hu
      obtain ⟨vs, _, h2, _⟩ := hk F1 ad1 _ H1 .refl g1.rel (gOk_now hu)
      refine ⟨a, vs, rfl, h2 rfl, k F1 ad1 H1 _ g1 fun F' ad' S' H' st g' ok i => ?_⟩
      obtain ⟨ws, _, w2, w3⟩ := hk F' ad' S' H' st g' ok
      refine ⟨fun hl => ⟨ws, w2 rfl, by rw [Paired.length w3]; simpa using hl⟩, fun it hi => ?_⟩
      rw [List.getElem?_mapIdx] at hi
      obtain ⟨u, hu, rfl⟩ := Option.map_eq_some_iff.mp hi
      obtain ⟨x, hx, rx⟩ := Paired.get w3 hu
      refine ⟨⟨ws, x, w2 rfl, hx⟩, fun y H'' hy => ?_⟩
      obtain ⟨T, x', rfl, hT, rfl, hy⟩ := hy
      have e : x' = x := Option.some.inj ((hy ws (w2 rfl)).symm.trans hx)
      subst e
      exact tup_new g' hT (.cons (Rep.int _) (.cons rx .nil))
    · cases e
  · cases e
/-! ### for -/
noncomputable def loopF (g : GF) (body : SF) (cl : List Nat) (gs : Gs) : List Itm → SF
  | [], σ, S => if gOk gs S then some (.nx, σ, S) else none
  | t :: ts, σ, S => if gOk gs S then (g t σ S).bind fun q => (body q.1 q.2).bind fun o => match o.1 with
    | .nx => loopF g body cl gs ts (forget cl o.2.1) o.2.2
    | .ct => loopF g body cl gs ts (forget cl o.2.1) o.2.2
    | .bk => some (.nx, forget cl o.2.1, o.2.2)
    | .rt t => some (.rt t, o.2.1, o.2.2) else none
noncomputable def cFor (fi : IF) (g : GF) (body : SF) (cl : List Nat) : SF := fun σ S => (fi σ S).bind fun p => loopF g body cl p.2.1 p.1 (forget cl σ) p.2.2
theorem fs_for {tg iter : Expr} {body : List Stmt} {is : List Nat} {fi : IF} {g : GF} {fb : SF} {pos : Pos} (cl : List Nat) (hp : PassesOwn (model X.prog X.w) X.A X.env X.xe) (hc : X.calm = true) (hi : FI X tg iter fi) (hg : FG X tg is g) (hb : FSs X body fb)
    (hs : ∀ x, foldedSetIterable iter X.env x = pure x := by intro _; rfl) : FS X (.For tg iter body [] pos) (cFor fi g fb cl) := by
  refine PS.imp (ps_for hp hc hi hg hb hs) fun D τ H ⟨F, ad, σ, S, o, r, so, e, k⟩ => ?_
  obtain ⟨⟨items, gs, S1⟩, e1, e⟩ := bind_some e
  refine ⟨F, ad, σ, S, items, gs, S1, r, so, e1, fun F1 ad1 H1 J g1 hJ => ?_⟩
  refine ⟨fun i m τ H => ∃ F ad σ S, RelS X.K F ad S H ∧ SlotsOk X.K F ad σ τ ∧ Step F1 ad1 H1 F ad H ∧ loopF g fb cl gs (items.drop i) σ S = some o ∧ m = items.length - i ∧ Fin X.K F ad H D o,
    ⟨items.length, F1, ad1, forget cl σ, S1, g1.rel, (so.step g1.st).forget, .refl, e, rfl, k.go g1⟩, ?_⟩
  rintro i m τ H ⟨F, ad, σ, S, r, so, st, e, rfl, k⟩
  by_cases hlt : i < items.length
  · rw [List.drop_eq_getElem_cons hlt] at e
    unfold loopF at e
    split at e
    · rename_i ok
      obtain ⟨q1, q2⟩ := hJ F ad S H st r ok i
      obtain ⟨go, yl⟩ := q2 items[i] (List.getElem?_eq_getElem hlt)
      obtain ⟨⟨σ2, S2⟩, e2, e⟩ := bind_some e
      obtain ⟨⟨fl, σ3, S3⟩, e3, e⟩ := bind_some e
      simp only at e
      refine .inr ⟨go, fun τ' H' => ∃ F ad, RelS X.K F ad S3 H' ∧ SlotsOk X.K F ad σ3 τ' ∧ Step F1 ad1 H1 F ad H' ∧ loopF g fb cl gs (items.drop (i + 1)) (forget cl σ3) S3 = some o ∧ Fin X.K F ad H' D o, ?_, ?_⟩
      · rintro τ' H' ⟨F', ad', r', so', st', e', k'⟩
        exact ⟨items.length - (i + 1), by omega, F', ad', forget cl σ3, S3, r', so'.forget, st', e', rfl, k'⟩
      · intro x H' hy
        obtain ⟨F', g', ri⟩ := yl x H' hy
        refine ⟨F', ad, σ, S, items[i], σ2, S2, g'.rel, so.step g'.st, ri, e2, fun τ2 H2 F2 ad2 g2 so2 _ => ?_⟩
        have gg := g'.trans g2
        refine ⟨F2, ad2, σ2, S2, (fl, σ3, S3), g2.rel, so2, e3, ?_⟩
        cases fl with
        | nx => exact fun F3 ad3 H3 τ3 g3 so3 => ⟨F3, ad3, g3.rel, so3, st.trans (gg.trans g3).st, e, k.go (gg.trans g3)⟩
        | ct => exact fun F3 ad3 H3 τ3 g3 so3 => ⟨F3, ad3, g3.rel, so3, st.trans (gg.trans g3).st, e, k.go (gg.trans g3)⟩
        | bk =>
          cases e
          exact fun F3 ad3 H3 τ3 g3 so3 => k F3 ad3 H3 τ3 (gg.trans g3) so3.forget
        | rt t =>
          cases e
          exact fun F3 ad3 H3 v g3 rv => k F3 ad3 H3 v (gg.trans g3) rv
    · cases e
  · rw [List.drop_eq_nil_of_le (Nat.le_of_not_lt hlt)] at e
    unfold loopF at e
    split at e
    · rename_i ok
      cases e
      obtain ⟨q1, q2⟩ := hJ F ad S H st r ok i
      exact .inl ⟨q1 (Nat.le_of_not_lt hlt), k F ad H τ (.refl r) so⟩
    · cases e
/-! ### while -/
/-- at most n turns -/
def loopW (c : BF) (body : SF) (cl : List Nat) : Nat → SF
  | 0, _, _ => none
  | n + 1, σ, S => (c σ S).bind fun p => if p.1 = true then (body σ p.2).bind fun o => match o.1 with
      | .nx => loopW c body cl n (forget cl o.2.1) o.2.2
      | .ct => loopW c body cl n (forget cl o.2.1) o.2.2
      | .bk => some (.nx, forget cl o.2.1, o.2.2)
      | .rt t => some (.rt t, o.2.1, o.2.2)
    else some (.nx, σ, p.2)
theorem fs_while {c : Expr} {body : List Stmt} {fc : BF} {fb : SF} {pos : Pos} (n : Nat) (cl : List Nat) (hp : PassesOwn (model X.prog X.w) X.A X.env X.xe) (hc : FB X c fc) (hb : FSs X body fb) : FS X (.While c body [] pos) (loopW fc fb cl n) := by
  refine PS.imp (ps_while hp hc hb) fun D τ H ⟨F, ad, σ, S, o, r, so, e, k⟩ => ?_
  refine ⟨fun m τ H => ∃ F ad σ S, RelS X.K F ad S H ∧ SlotsOk X.K F ad σ τ ∧ loopW fc fb cl m σ S = some o ∧ Fin X.K F ad H D o, ⟨n, F, ad, σ, S, r, so, e, k⟩, ?_⟩
  rintro m τ H ⟨F, ad, σ, S, r, so, e, k⟩
  cases m with
  | zero => unfold loopW at e; cases e
  | succ m =>
    unfold loopW at e
    obtain ⟨⟨b, S1⟩, e1, e⟩ := bind_some e
    refine ⟨F, ad, σ, S, b, S1, r, so, e1, fun F1 ad1 H1 g1 => ?_⟩
    cases b with
    | false =>
      rw [if_neg Bool.false_ne_true]
      rw [if_neg Bool.false_ne_true] at e
      cases e
      exact k F1 ad1 H1 τ g1 (so.step g1.st)
    | true =>
      rw [if_pos rfl]
      rw [if_pos rfl] at e
      obtain ⟨⟨fl, σ3, S3⟩, e3, e⟩ := bind_some e
      simp only at e
      refine ⟨fun τ' H' => ∃ F ad, RelS X.K F ad S3 H' ∧ SlotsOk X.K F ad σ3 τ' ∧ loopW fc fb cl m (forget cl σ3) S3 = some o ∧ Fin X.K F ad H' D o, ?_, ?_⟩
      · rintro τ' H' ⟨F', ad', r', so', e', k'⟩
        exact ⟨m, by omega, F', ad', forget cl σ3, S3, r', so'.forget, e', k'⟩
      · refine ⟨F1, ad1, σ, S1, (fl, σ3, S3), g1.rel, so.step g1.st, e3, ?_⟩
        cases fl with
        | nx => exact fun F3 ad3 H3 τ3 g3 so3 => ⟨F3, ad3, g3.rel, so3, e, k.go (g1.trans g3)⟩
        | ct => exact fun F3 ad3 H3 τ3 g3 so3 => ⟨F3, ad3, g3.rel, so3, e, k.go (g1.trans g3)⟩
        | bk =>
          cases e
          exact fun F3 ad3 H3 τ3 g3 so3 => k F3 ad3 H3 τ3 (g1.trans g3) so3.forget
        | rt t =>
          cases e
          exact fun F3 ad3 H3 v g3 rv => k F3 ad3 H3 v (g1.trans g3) rv
end
end FL
/-! FL: comprehensions, defs. -/
namespace FL
open PySem PySem.Spec PyProof.Rows L2
open Classical in
section
variable {X : Cx}
/-! ### [e for x in xs if t] -/
noncomputable def compL (g : GF) (t : BF) (f : EF) (σ : Sg) (gs : Gs) : List Itm → Cs → Option (List T × Cs)
  | [], S => if gOk gs S then some ([], S) else none
  | it :: r, S => if gOk gs S then (g it σ S).bind fun q => (t q.1 q.2).bind fun b => if b.1 = true then (f q.1 b.2).bind fun u => (compL g t f σ gs r u.2).map fun w => (u.1 :: w.1, w.2)
      else compL g t f σ gs r b.2 else none
noncomputable def cComp (fi : IF) (g : GF) (t : BF) (f : EF) (vs : List Nat) : EF := fun σ S => (fi σ S).bind fun p => (compL g t f (forget vs σ) p.2.1 p.1 p.2.2).bind fun q => if q.1.length ≤ sizeLine then some (.own q.2.length, q.2 ++ [.lst q.1]) else none
def FTs (X : Cx) (ifs : List Expr) (f : BF) : Prop := PTs X ifs (tB X.K f)
def cYes : BF := fun _ S => some (true, S)
theorem PTs.imp {e : List Expr} {t t' : TT} (h : PTs X e t) (w : ∀ τ H Q, t' τ H Q → t τ H Q) : PTs X e t' := ⟨fun pins s σ H Q I q => h.run pins s σ H Q I (w _ _ _ q)⟩
theorem fts_nil : FTs X [] cYes := PTs.imp pts_nil fun τ H Q ⟨F, ad, σ, S, b, S', r, so, e, k⟩ => by
  cases e
  exact k F ad H (.refl r)
theorem fts_one {c : Expr} {f : BF} (h : FB X c f) : FTs X [c] f := pts_one h
theorem wipe_get (τ : L2.St) : ∀ (vs : List Nat) (j : Nat), (wipe τ vs)[j]? = if j ∈ vs then (if j < τ.length then some none else none) else τ[j]?
  | [], j => by simp [wipe]
  | v :: vs, j => by
    unfold wipe
    rw [List.getElem?_set, wipe_length, wipe_get τ vs j]
    by_cases h : v = j
    · subst h; simp
    · rw [if_neg h]
      have h' : ¬ j = v := fun e => h e.symm
      simp [h']
theorem wipe_dif {τ τ' : L2.St} {vs is : List Nat} (d : Dif is (wipe τ vs) τ') (h : ∀ i ∈ is, i ∈ vs) : wipe τ' vs = wipe τ vs := by
  apply List.ext_getElem?
  intro j
  rw [wipe_get, wipe_get]
  have hl : τ'.length = τ.length := by rw [d.1, wipe_length]
  by_cases hj : j ∈ vs
  · rw [if_pos hj, if_pos hj, hl]
  · rw [if_neg hj, if_neg hj, d.2 j (fun z => hj (h j z)), wipe_get, if_neg hj]
theorem slots_wipe {K : Frg} {F : Hp} {ad : List Addr} {τ : L2.St} : ∀ {vs : List Nat} {σ : Sg}, SlotsOk K F ad σ τ → SlotsOk K F ad (forget vs σ) (wipe τ vs) := by
  intro vs σ h
  have key : ∀ (vs : List Nat) (σ : Sg), (forget vs σ).length = σ.length ∧ ∀ j t, (forget vs σ)[j]? = some (some t) → σ[j]? = some (some t) ∧ j ∉ vs := by
    intro vs
    induction vs with
    | nil => intro σ; exact ⟨rfl, fun j t e => ⟨e, by simp⟩⟩
    | cons v vs ih =>
      intro σ
      obtain ⟨i1, i2⟩ := ih (σ.set v none)
      refine ⟨by show (forget vs (σ.set v none)).length = _; rw [i1, List.length_set], fun j t e => ?_⟩
      obtain ⟨e1, e2⟩ := i2 j t e
      rw [List.getElem?_set] at e1
      by_cases hv : v = j
      · subst hv
        rw [if_pos rfl] at e1
        by_cases hl : v < σ.length
        · rw [if_pos hl] at e1; cases e1
        · rw [if_neg hl] at e1; cases e1
      · rw [if_neg hv] at e1
        exact ⟨e1, fun z => (List.mem_cons.mp z).elim (fun z => hv z.symm) e2⟩
  obtain ⟨k1, k2⟩ := key vs σ
  refine ⟨by rw [k1, wipe_length]; exact h.1, fun i t e => ?_⟩
  obtain ⟨e1, e2⟩ := k2 i t e
  obtain ⟨v, h1, h2⟩ := h.2 i t e1
  exact ⟨v, by rw [wipe_get, if_neg e2]; exact h1, h2⟩
/-- the reading of a comprehension -/
theorem lc_ok {fi : IF} {g : GF} {t : BF} {f : EF} {is vs : List Nat} {τ : L2.St} {H : Hp} {Q : VK} (his : ∀ i ∈ is, i ∈ vs) (h : tE X.K (cComp fi g t f vs) τ H Q) : tLc (tI X.K fi) (tG X.K is g) (tB X.K t) (tE X.K f) vs τ H Q := by
  obtain ⟨F, ad, σ, S, o, S', r, so, e, k⟩ := h
  obtain ⟨⟨items, gs, S1⟩, e1, e⟩ := bind_some e
  obtain ⟨⟨us, S2⟩, e2, e⟩ := bind_some e
  simp only at e
  split at e
  case isFalse => cases e
  rename_i hz
  cases e
  refine ⟨F, ad, σ, S, items, gs, S1, r, so, e1, fun F1 ad1 H1 J g1 hJ D hD => ?_⟩
  have F1D : F1 D = none := g1.rel.fresh hD
  have r0 : RelS X.K F1 ad1 S1 (upd H1 D (.lst [])) := ⟨fun b o hb => by rw [upd_ne (ne_of_none hb F1D)]; exact g1.rel.sub b o hb, g1.rel.nd, g1.rel.len, fun p a c i1 i2 => by
    have z := g1.rel.cells p a c i1 i2
    have na : a ≠ D := fun e => by
      obtain ⟨o, ho⟩ := z.there
      rw [e, hD] at ho; cases ho
    cases c with
    | lst ts => obtain ⟨n, ws, hh, q⟩ := z; exact ⟨n, ws, by rw [upd_ne na]; exact hh, q⟩
    | ins c fs => obtain ⟨n, dx, fvs, hh, q⟩ := z; exact ⟨n, dx, fvs, by rw [upd_ne na]; exact hh, q⟩
    | frz d => obtain ⟨q, o, hh⟩ := z; exact ⟨q, o, by rw [upd_ne na]; exact hh⟩⟩
  have st0 : Step F1 ad1 H1 F1 ad1 (upd H1 D (.lst [])) := ⟨fun _ _ h => h, fun _ _ h => .inl h, ⟨[], by simp, fun _ h => by simp at h⟩, fun b o h _ => by rw [upd_ne (ne_of_none h hD)]; exact h, fun b h => by
      by_cases hb : b = D
      · rw [hb]; exact hD
      · rw [upd_ne hb] at h; exact h⟩
  have D1 : D ∉ ad1 := fun z => by
    obtain ⟨o, ho⟩ := g1.rel.there z
    rw [hD] at ho; cases ho
  -- what stands at the beginning of turn i
  refine ⟨fun i m H => ∃ F ad S acc rest, RelS X.K F ad S H ∧ Step F1 ad1 H1 F ad H ∧ F D = none ∧ D ∉ ad ∧ (∃ vs', H D = some (.lst vs') ∧ RepTs X.K F ad vs' acc) ∧
      compL g t f (forget vs σ) gs (items.drop i) S = some (rest, S2) ∧ us = acc ++ rest ∧ m = items.length - i,
    ⟨items.length, F1, ad1, S1, [], us, r0, st0, F1D, D1, ⟨[], upd_same, .nil⟩, e2, rfl, rfl⟩, ?_⟩
  rintro i m H ⟨F, ad, S, acc, rest, r, st, FD, Dad, ⟨ws, hD', ra⟩, e, eu, rfl⟩
  have soW : ∀ {F ad H}, Step F1 ad1 H1 F ad H → SlotsOk X.K F ad (forget vs σ) (wipe τ vs) := fun st => SlotsOk.step st (slots_wipe (so.step g1.st))
  by_cases hlt : i < items.length
  · rw [List.drop_eq_getElem_cons hlt] at e
    unfold compL at e
    split at e
    case isFalse => cases e
    rename_i ok
    obtain ⟨q1, q2⟩ := hJ F ad S H st r ok i
    obtain ⟨go, yl⟩ := q2 items[i] (List.getElem?_eq_getElem hlt)
    obtain ⟨⟨σ2, S3⟩, e3, e⟩ := bind_some e
    obtain ⟨⟨b, S4⟩, e4, e⟩ := bind_some e
    simp only at e
    refine .inr ⟨go, fun H' => ∃ F ad S acc rest, RelS X.K F ad S H' ∧ Step F1 ad1 H1 F ad H' ∧ F D = none ∧ D ∉ ad ∧ (∃ vs', H' D = some (.lst vs') ∧ RepTs X.K F ad vs' acc) ∧
      compL g t f (forget vs σ) gs (items.drop (i + 1)) S = some (rest, S2) ∧ us = acc ++ rest, ?_, ?_⟩
    · rintro H' ⟨F', ad', S', acc', rest', h1, h2, h3, h4, h5, h6, h7⟩
      exact ⟨items.length - (i + 1), by omega, F', ad', S', acc', rest', h1, h2, h3, h4, h5, h6, h7, rfl⟩
    · intro x H' hy
      obtain ⟨F', g', ri⟩ := yl x H' hy
      -- D stays apart through steps
      have apart : ∀ {F ad H S F' ad' H'}, F D = none → D ∉ ad → H D ≠ none → Go X.K F ad H F' ad' H' S → F' D = none ∧ D ∉ ad' ∧ (∀ o, H D = some o → H' D = some o) := fun {F ad H S F' ad' H'} a b c g => by
        refine ⟨?_, ?_, fun o ho => g.st.keep D o ho b⟩
        · cases q : F' D with
          | none => rfl
          | some u =>
            rcases g.st.fnew D u q with z | z | z
            · rw [a] at z; cases z
            · exact absurd z b
            · exact absurd z c
        · obtain ⟨l, el, hl⟩ := g.st.adx
          rw [el]
          intro z
          rcases List.mem_append.mp z with z | z
          · exact b z
          · exact c (hl D z)
      refine ⟨F', ad, forget vs σ, S, items[i], σ2, S3, g'.rel, soW (st.trans g'.st), ri, e3, fun τ2 H2 F2 ad2 g2 so2 df => ⟨wipe_dif df his, ?_⟩⟩
      refine ⟨F2, ad2, σ2, S3, b, S4, g2.rel, so2, e4, fun F3 ad3 H3 g3 => ?_⟩
      have gg := (g'.trans g2).trans g3
      obtain ⟨a1, a2, a3⟩ := apart FD Dad (by rw [hD']; simp) gg
      cases b with
      | false =>
        rw [if_neg Bool.false_ne_true] at e
        refine iteF ?_
        exact ⟨F3, ad3, S4, acc, rest, g3.rel, st.trans gg.st, a1, a2, ⟨ws, a3 _ hD', RepTs.step gg.st ra⟩, e, eu⟩
      | true =>
        rw [if_pos rfl] at e
        refine iteT ?_
        obtain ⟨⟨u, S5⟩, e5, e⟩ := bind_some e
        obtain ⟨⟨ur, S6⟩, e6, e⟩ := Option.map_eq_some_iff.mp e
        cases e
        refine ⟨F3, ad3, σ2, S4, u, S5, g3.rel, so2.step g3.st, e5, fun F4 ad4 H4 v g4 rv => ?_⟩
        obtain ⟨b1, b2, b3⟩ := apart a1 a2 (by rw [a3 _ hD']; simp) g4
        have hD4 := b3 _ (a3 _ hD')
        have ra4 : RepTs X.K F4 ad4 ws acc := RepTs.step (gg.trans g4).st ra
        refine ⟨ws, hD4, ?_, ?_⟩
        · have : acc.length + 1 ≤ us.length := by rw [eu]; simp
          have := Paired.length ra4
          omega
        · have r5 : RelS X.K F4 ad4 S5 (upd H4 D (.lst (ws ++ [v]))) := ⟨fun b o hb => by rw [upd_ne (ne_of_none hb b1)]; exact g4.rel.sub b o hb, g4.rel.nd, g4.rel.len, fun p a c i1 i2 => by
            have z := g4.rel.cells p a c i1 i2
            have na : a ≠ D := fun e => b2 (e ▸ List.mem_of_getElem? i1)
            cases c with
            | lst ts => obtain ⟨n, zs, hh, q⟩ := z; exact ⟨n, zs, by rw [upd_ne na]; exact hh, q⟩
            | ins c fs => obtain ⟨n, dx, fvs, hh, q⟩ := z; exact ⟨n, dx, fvs, by rw [upd_ne na]; exact hh, q⟩
            | frz d => obtain ⟨q, o, hh⟩ := z; exact ⟨q, o, by rw [upd_ne na]; exact hh⟩⟩
          have st0 := (st.trans gg.st).trans g4.st
          have st5 : Step F1 ad1 H1 F4 ad4 (upd H4 D (.lst (ws ++ [v]))) := by
            refine ⟨st0.fsub, st0.fnew, st0.adx, fun b o hb hn => ?_, fun b hb => ?_⟩
            · rw [upd_ne (ne_of_none hb hD)]; exact st0.keep b o hb hn
            · by_cases hbD : b = D
              · rw [hbD]; exact hD
              · rw [upd_ne hbD] at hb; exact st0.alive b hb
          exact ⟨F4, ad4, S5, acc ++ [u], ur, r5, st5, b1, b2, ⟨_, upd_same, Paired.append ra4 (.cons rv .nil)⟩, e6, by rw [eu]; simp⟩
  · rw [List.drop_eq_nil_of_le (Nat.le_of_not_lt hlt)] at e
    unfold compL at e
    split at e
    case isFalse => cases e
    rename_i ok
    cases e
    obtain ⟨q1, q2⟩ := hJ F ad S2 H st r ok i
    refine .inl ⟨q1 (Nat.le_of_not_lt hlt), ?_⟩
    rw [List.append_nil] at eu
    subst eu
    have r9 : RelS X.K F (ad ++ [D]) (S2 ++ [.lst us]) H := r.adopt (c := .lst us) Dad fun l => ⟨FD, ws, hD', Paired.mapP ra fun _ t q => RepT.mono (fun _ _ h => h) t q⟩
    have st9 : Step F1 ad1 H1 F (ad ++ [D]) H := by
      have z := st
      obtain ⟨l, h1, h2⟩ := z.adx
      exact ⟨z.fsub, z.fnew, ⟨l ++ [D], by rw [h1, List.append_assoc], fun a ha => (List.mem_append.mp ha).elim (h2 a) fun q => by rw [List.mem_singleton.mp q]; exact hD⟩, z.keep, z.alive⟩
    exact k F (ad ++ [D]) H _ (g1.trans ⟨st9, r9⟩) ⟨D, by rw [← r.len, List.getElem?_append_right (Nat.le_refl _)]; simp, rfl⟩
theorem fe_lc {elt tg iter : Expr} {ifs : List Expr} {scope : Scope} {own : List (Str × Nat)} {pos : Pos} {fi : IF} {g : GF} {ft : BF} {fe : EF} {is : List Nat} (hc : X.calm = true) (hN : X.N.Nodup) (hi : FI X tg iter fi) (ok : BlkOk X.N X.env.scope scope own)
    (hg : ∀ (s : Shared) (H : Hp) (C : Addr) (cl : List (Str × Addr)) (fp : List Addr), FG (X.blk s H scope (compEnvC scope cl C X.env) fp) tg is g) (ht : ∀ (s : Shared) (H : Hp) (C : Addr) (cl : List (Str × Addr)) (fp : List Addr), FTs (X.blk s H scope (compEnvC scope cl C X.env) fp) ifs ft)
    (he : ∀ (s : Shared) (H : Hp) (C : Addr) (cl : List (Str × Addr)) (fp : List Addr), FE (X.blk s H scope (compEnvC scope cl C X.env) fp) elt fe) (his : ∀ i ∈ is, i ∈ own.map (·.2) := by decide) (hs : ∀ x, foldedSetIterable iter X.env x = pure x := by intro _; rfl) :
    FE X (.ListComp elt [⟨tg, iter, ifs, 0⟩] scope pos) (cComp fi g ft fe (own.map (·.2))) :=
  PE.imp (pe_lc (g := tG X.K is g) (tt := tB X.K ft) (te := tE X.K fe) hc hN hi ok hg ht he hs) fun _ _ _ h => lc_ok his h
theorem fs_setLc (i : Nat) {y : Str} {py : Pos} {elt tg iter : Expr} {ifs : List Expr} {scope : Scope} {own : List (Str × Nat)} {pos spos : Pos} {fi : IF} {g : GF} {ft : BF} {fe : EF} {is : List Nat} (hc : X.calm = true) (hN : X.N.Nodup)
    (hsw : swapsWith (.ListComp elt [⟨tg, iter, ifs, 0⟩] scope pos) (some (.Name y py)) spos.line X.env = pure true) (hi : FI X tg iter fi) (ok : BlkOk X.N X.env.scope scope own)
    (hg : ∀ (s : Shared) (H : Hp) (C : Addr) (cl : List (Str × Addr)) (fp : List Addr), FG (X.blk s H scope (compEnvC scope cl C X.env) fp) tg is g) (ht : ∀ (s : Shared) (H : Hp) (C : Addr) (cl : List (Str × Addr)) (fp : List Addr), FTs (X.blk s H scope (compEnvC scope cl C X.env) fp) ifs ft)
    (he : ∀ (s : Shared) (H : Hp) (C : Addr) (cl : List (Str × Addr)) (fp : List Addr), FE (X.blk s H scope (compEnvC scope cl C X.env) fp) elt fe) (his : ∀ i ∈ is, i ∈ own.map (·.2) := by decide) (hy : X.N[i]? = some y := by rfl) (hyl : X.env.scope.names.lookup y = some .local := by rfl) (hs : ∀ x, foldedSetIterable iter X.env x = pure x := by intro _; rfl) :
    FS X (.Assign [.Name y py] (.ListComp elt [⟨tg, iter, ifs, 0⟩] scope pos) spos) (cSet i (cComp fi g ft fe (own.map (·.2)))) := by
  refine PS.imp (ps_setLc (g := tG X.K is g) (tt := tB X.K ft) (te := tE X.K fe) hc hN hy hyl hsw hi ok hg ht he hs) fun D τ H ⟨F, ad, σ, S, o, r, so, e, k⟩ => ?_
  obtain ⟨⟨t, S1⟩, e1, e⟩ := Option.map_eq_some_iff.mp e
  cases e
  exact lc_ok his ⟨F, ad, σ, S, t, S1, r, so, e1, fun F1 ad1 H1 v g1 rv => k F1 ad1 H1 _ g1 ((so.step g1.st).set rv i)⟩
/-! ### defs -/
def startT (n : Nat) (ts : List T) : Sg := ts.map some ++ List.replicate (n - ts.length) none
def fnM (n : Nat) (g : SF) : MF := fun ts S => (g (startT n ts) S).bind fun o => match o.1 with
  | .nx => some (.d .non, o.2.2)
  | .rt t => some (t, o.2.2)
  | _ => none
theorem start_ok {K : Frg} {F : Hp} {ad : List Addr} {N : List Str} {vs : List V} {ts : List T} (r : RepTs K F ad vs ts) : SlotsOk K F ad (startT N.length ts) (L2.start N vs) := by
  have hl := Paired.length r
  unfold startT L2.start
  refine ⟨by simp [hl], fun i t e => ?_⟩
  by_cases hi : i < ts.length
  · rw [List.getElem?_append_left (by simpa using hi), List.getElem?_map] at e
    obtain ⟨u, hu, e⟩ := Option.map_eq_some_iff.mp e
    cases e
    obtain ⟨v, hv, rv⟩ := Paired.get r hu
    exact ⟨v, by rw [List.getElem?_append_left (by rw [List.length_map, hl]; exact hi), List.getElem?_map, hv]; rfl, rv⟩
  · rw [List.getElem?_append_right (by simpa using hi)] at e
    rw [List.getElem?_replicate] at e
    split at e
    · cases e
    · cases e
end
section
variable {P : Program} {w : World} {K : Frg} {mg : Str → Option Value} {base : Heap} {x qual : Str} {params : Arguments} {body : List Stmt} {scope : Scope} {dvs : List V} {kws : List (Str × V)} {f : Addr} {fd : FuncData}
theorem def_ok {N ps : List Str} {k : Nat} {g : SF} (F : FunD K x qual params body scope dvs kws f fd) (S : FnScope N ps scope)
    (hbody : ∀ (cdv : Value) (A : Around) (outer : List Env) (s : Shared) (H : Hp) (E : XK), Room k (A.deeper (envOfC qual scope s.heap.objs.size f cdv)) → FSs (cxOf CX0 P w K mg base N qual scope f cdv A outer s H E).nox body g) :
    FnOk P w K mg base CX0 (k + 1) f fd ps (spF K ps.length (fnM N.length g)) := by
  refine F.ok S (fun vs H Q E h => ?_) (fun cdv A outer s H vs Q E hr h => ⟨_, PSs.nox (hbody cdv A outer s H E hr), ?_⟩)
  · obtain ⟨F, ad, S, ts, t, S', r, rs, hn, _⟩ := h
    rw [Paired.length rs, hn]
  · obtain ⟨F, ad, S, ts, t, S', r, rs, hn, e, k⟩ := h
    unfold fnM at e
    obtain ⟨⟨fl, σ, S1⟩, e1, e⟩ := bind_some e
    refine ⟨F, ad, startT N.length ts, S, (fl, σ, S1), r, start_ok rs, e1, ?_⟩
    cases fl with
    | nx =>
      cases e
      exact fun F' ad' H' τ' g' so => k F' ad' H' .non g' Rep.non
    | rt t =>
      cases e
      exact fun F' ad' H' v g' rv => k F' ad' H' v g' rv
    | bk => cases e
    | ct => cases e
end
end FL
/-! FL: ranges, slices, truth, calls that give back what they took, xs[i] += e. -/
namespace FL
open PySem PySem.Spec PyProof.Rows L2
section
variable {X : Cx}
/-! ### ranges as values -/
def bRange2 : MF := b2 fun t u S => match asI t, asI u with
  | some i, some j => some (.d (.rng i j), S)
  | _, _ => none
theorem f_range2 : CallF X (.type "range") bRange2 := by
  refine CallR.imp cr_range2 fun vs H Q ⟨F, ad, S, ts, t, S', r, rs, e, k⟩ => ?_
  have e2 := b2_some (show b2 _ ts S = some (t, S') from e)
  clear e
  obtain ⟨_, _, rfl, e⟩ := e2
  split at e
  · rename_i i j hi hj
    cases e
    obtain ⟨x, y, rfl, rx, ry⟩ := pair2 rs
    refine ⟨i, j, by rw [asI_ok hi rx, asI_ok hj ry], fun p hp => ?_⟩
    obtain ⟨r3, s3⟩ := r.newF (o := .rng i j) hp
    exact k _ ad _ _ ⟨s3, r3⟩ (Rep.rng upd_same)
  · cases e
theorem cr_range1 : CallR X (.type "range") (fun vs H Q => ∃ j, vs = [V.int j] ∧ ∀ p, H p = none → Q (.ref p) (upd H p (.rng 0 j))) := by
  intro pins s σ H vs us Q I r h
  obtain ⟨j, rfl, q⟩ := h
  obtain ⟨u1, rfl, rj⟩ := vals1 r
  obtain ⟨t, rfl⟩ := rj
  refine call_range_1 ⟨.ref s.heap.objs.size, upd H s.heap.objs.size (.rng 0 j), I.laid (fun b o e => Heap.get?_push_of_some _ e) (Nat.le_refl _) ?_, rfl, q _ (I.hok.fresh (Nat.le_refl _))⟩
  exact ⟨_, _, _, Heap.get?_push_size _ rfl⟩
def bRange1 : MF := b1 fun t S => (asI t).map fun j => (.d (.rng 0 j), S)
theorem f_range1 : CallF X (.type "range") bRange1 := by
  refine CallR.imp cr_range1 fun vs H Q ⟨F, ad, S, ts, t, S', r, rs, e, k⟩ => ?_
  have e2 := b1_some (show b1 _ ts S = some (t, S') from e)
  clear e
  obtain ⟨_, rfl, e⟩ := e2
  obtain ⟨j, hj, e⟩ := Option.map_eq_some_iff.mp e
  cases e
  obtain ⟨x, rfl, rx⟩ := pair1 rs
  refine ⟨j, by rw [asI_ok hj rx], fun p hp => ?_⟩
  obtain ⟨r3, s3⟩ := r.newF (o := .rng 0 j) hp
  exact k _ ad _ _ ⟨s3, r3⟩ (Rep.rng upd_same)
theorem vals_of : ∀ (ns : List Int) (us : List Value), us.length = ns.length → (∀ (i : Nat) u, us[i]? = some u → ∃ t, u = .int (ns.getD i 0) t) → Vals (ns.map V.int) us
  | [], [], _, _ => .nil
  | [], _ :: _, h, _ => by simp at h
  | _ :: _, [], h, _ => by simp at h
  | n :: ns, u :: us, h, f => .cons (by
      obtain ⟨t, e⟩ := f 0 u rfl
      exact ⟨t, by simpa using e⟩) (vals_of ns us (by simpa using h) fun i w hw => by
      obtain ⟨t, e⟩ := f (i + 1) w (by simpa using hw)
      exact ⟨t, by simpa using e⟩)
theorem rangeL_get (lo hi : Int) (i : Nat) (h : i < (hi - lo).toNat) : (rangeL lo hi).getD i 0 = lo + i := by
  unfold rangeL
  rw [List.getD_eq_getElem?_getD, List.getElem?_map, List.getElem?_range h]
  rfl
theorem cr_listRange (hc : X.calm = true) : CallR X (.type "list") (fun vs H Q => ∃ a lo hi, vs = [V.ref a] ∧ H a = some (.rng lo hi) ∧ inR lo ∧ inR hi ∧ hi - lo ≤ 2 ^ 24 ∧ ∀ p, H p = none → Q (.ref p) (upd H p (.lst ((rangeL lo hi).map V.int)))) := by
  intro pins s σ H vs us Q I r h
  obtain ⟨a, lo, hi, rfl, ha, ⟨h1, h2⟩, ⟨h3, h4⟩, hl, q⟩ := h
  obtain ⟨u1, rfl, ra⟩ := vals1 r
  obtain rfl : u1 = Value.ref a := ra
  obtain ⟨t, u, v, ho⟩ := I.hok a _ ha
  have hn : (hi - lo).toNat ≤ 2 ^ 24 := by omega
  refine call_list_range (n := (hi - lo).toNat) (I.ok.hd hc) (show IsRange s.heap a lo hi 1 t u v from ho) (small_one h1 h2 h3 h4) (by rw [rangeSize_one]; split <;> omega) hn fun h' tk acc' c' kk hS' it => ?_
  have len : (rangeL lo hi).length = (hi - lo).toNat := by unfold rangeL; simp
  refine ⟨.ref s.heap.objs.size, upd H s.heap.objs.size (.lst ((rangeL lo hi).map V.int)), I.laid kk (Nat.le_refl _) ⟨by rw [List.length_map, len]; exact Nat.le_trans hn (by decide), acc'.toList, c', ?_, by simpa using hS'⟩, rfl, q _ (I.hok.fresh (Nat.le_refl _))⟩
  refine vals_of _ _ (by rw [len]; simpa using it.1) fun i w hw => ?_
  have hw' : acc'[i]? = some w := by simpa using hw
  obtain ⟨t, e⟩ := it.2 i w hw'
  have hi' : i < (hi - lo).toNat := by rw [← it.1]; exact (Array.getElem?_eq_some_iff.mp hw').1
  exact ⟨t, by rw [e, rangeL_get lo hi i hi', Int.mul_one]⟩
def bListR : MF := b1 fun t S => match deref t S with
  | .d (.rng lo hi) => if inR lo ∧ inR hi ∧ hi - lo ≤ 2 ^ 24 then some (.own S.length, S ++ [.lst ((rangeL lo hi).map fun i => .d (.int i))]) else none
  | _ => none
theorem f_listR (hc : X.calm = true) : CallF X (.type "list") bListR := by
  refine CallR.imp (cr_listRange hc) fun vs H Q ⟨F, ad, S, ts, t, S', r, rs, e, k⟩ => ?_
  have e2 := b1_some (show b1 _ ts S = some (t, S') from e)
  clear e
  obtain ⟨_, rfl, e⟩ := e2
  split at e
  · rename_i lo hi hd
    split at e
    · rename_i hb
      cases e
      obtain ⟨x, rfl, rx⟩ := pair1 rs
      have rx := deref_ok r rx
      rw [hd] at rx
      cases (show Rep X.K F x (.rng lo hi) from rx) with
      | rng q =>
        refine ⟨_, lo, hi, rfl, r.sub _ _ q, hb.1, hb.2.1, hb.2.2, fun p hp => ?_⟩
        obtain ⟨g2, q2⟩ := new_lst r hp (scr_ts (K := X.K) (F := F) (ad := ad) (rangeL lo hi))
        exact k _ _ _ _ g2 q2
    · cases e
  · cases e
abbrev bListA : MF := bOr bList bListR
theorem f_listA (hc : X.calm = true) : CallF X (.type "list") bListA := f_list.or (f_listR hc)
/-! ### slices of lists, of tuples -/
def partI (f : EF) (σ : Sg) (S : Cs) : Option (Option Int × Cs) := (f σ S).bind fun p => (asI p.1).map fun i => (some i, p.2)
abbrev OFn := Sg → Cs → Option (Option Int × Cs)
def noPart : OFn := fun _ S => some (none, S)
def tO (K : Frg) (f : OFn) : TO := fun τ H Q => ∃ F ad σ S i S', RelS K F ad S H ∧ SlotsOk K F ad σ τ ∧ f σ S = some (i, S') ∧ ∀ F' ad' H', Go K F ad H F' ad' H' S' → Q i H'
def FO (X : Cx) (e : Option Expr) (f : OFn) : Prop := PO X e (tO X.K f)
theorem PO.imp {e : Option Expr} {t t' : TO} (h : PO X e t) (w : ∀ τ H Q, t' τ H Q → t τ H Q) : PO X e t' := ⟨fun pins s σ H Q I q => h.run pins s σ H Q I (w _ _ _ q)⟩
theorem fo_none : FO X none noPart := PO.imp po_none fun τ H Q ⟨F, ad, σ, S, i, S', r, so, e, k⟩ => by
  cases e
  exact k F ad H (.refl r)
theorem fo_some {e : Expr} {f : EF} (h : FE X e f) : FO X (some e) (partI f) := by
  refine PO.imp (po_some h) fun τ H Q ⟨F, ad, σ, S, i, S', r, so, e, k⟩ => ?_
  obtain ⟨⟨t, S1⟩, e1, e⟩ := bind_some e
  obtain ⟨j, hj, e⟩ := Option.map_eq_some_iff.mp e
  cases e
  exact ⟨F, ad, σ, S, t, S1, r, so, e1, fun F1 ad1 H1 v g1 rv => ⟨j, asI_ok hj rv, k F1 ad1 H1 g1⟩⟩
def cutG {α : Type} (xs : List α) (lo hi : Option Int) : List α := (xs.drop (HT.sIx xs.length 0 lo)).take (HT.sIx xs.length xs.length hi - HT.sIx xs.length 0 lo)
theorem Paired.cut {α β : Type} {R : α → β → Prop} {vs : List α} {ds : List β} (r : Paired R vs ds) (lo hi : Option Int) : Paired R (cutG vs lo hi) (cutG ds lo hi) := by
  unfold cutG
  rw [Paired.length r]
  exact Paired.take _ (Paired.drop _ r)
theorem Reps.ofT {K : Frg} {F : Hp} {ad : List Addr} : ∀ {vs : List V} {ds : List D}, RepTs K F ad vs (ds.map .d) → Reps K F vs ds
  | [], [], _ => .nil
  | [], _ :: _, h => by cases h
  | _ :: _, [], h => by cases h
  | v :: vs, d :: ds, h => by
    cases h with
    | cons a b => exact .cons a (Reps.ofT b)
theorem cutG_map {α β : Type} (f : α → β) (xs : List α) (lo hi : Option Int) : cutG (xs.map f) lo hi = (cutG xs lo hi).map f := by
  unfold cutG
  rw [List.length_map, List.map_take, List.map_drop]
def cSl (fe : EF) (lo hi : OFn) : EF := fun σ S => (fe σ S).bind fun p => (lo σ p.2).bind fun a => (hi σ a.2).bind fun b => match seqOf p.1 b.2 with
  | some (false, ts) => some (.own b.2.length, b.2 ++ [.lst (cutG ts a.1 b.1)])
  | some (true, _) => (match asT p.1 b.2 with
    | some ds => if HT.sIx ds.length 0 a.1 = 0 ∧ HT.sIx ds.length ds.length b.1 = ds.length then none else some (.d (.tup (cutG ds a.1 b.1)), b.2)
    | none => none)
  | none => none
theorem SlR.or {r r' : V → Option Int → Option Int → Hp → VK → Prop} (h : SlR X r) (h' : SlR X r') : SlR X (fun x lo hi H Q => r x lo hi H Q ∨ r' x lo hi H Q) := fun pins s σ H x v vl vu lo hi sl Q I rx hs h1 h2 q =>
  q.elim (fun q => h pins s σ H x v vl vu lo hi sl Q I rx hs h1 h2 q) fun q => h' pins s σ H x v vl vu lo hi sl Q I rx hs h1 h2 q
theorem fe_sl {e : Expr} {lo hi : Option Expr} {fe : EF} {fl fh : OFn} {p2 pos : Pos} (he : FE X e fe) (hl : FO X lo fl) (hu : FO X hi fh) : FE X (.Subscript e (.Slice lo hi none p2) pos) (cSl fe fl fh) := by
  refine PE.imp (pe_slice (SlR.or sl_list sl_tup) he hl hu) fun τ H Q ⟨F, ad, σ, S, t, S', r, so, e, k⟩ => ?_
  obtain ⟨⟨tx, S1⟩, e1, e⟩ := bind_some e
  obtain ⟨⟨a, S2⟩, e2, e⟩ := bind_some e
  obtain ⟨⟨b, S3⟩, e3, e⟩ := bind_some e
  simp only at e
  refine ⟨F, ad, σ, S, tx, S1, r, so, e1, fun F1 ad1 H1 v g1 rx => ⟨F1, ad1, σ, S1, a, S2, g1.rel, so.step g1.st, e2, fun F2 ad2 H2 g2 => ⟨F2, ad2, σ, S2, b, S3, g2.rel, so.step (g1.trans g2).st, e3, fun F3 ad3 H3 g3 => ?_⟩⟩⟩
  have rx3 := rx.step (g2.trans g3).st
  split at e
  · rename_i ts hs
    cases e
    obtain ⟨c, vs, rfl, _, _, q2, rr⟩ := seqOf_ok g3.rel rx3 hs
    refine .inl ⟨c, vs, rfl, q2 rfl, fun p hp => ?_⟩
    obtain ⟨g4, q4⟩ := new_lst g3.rel hp (Paired.cut rr a b)
    exact k _ _ _ _ (((g1.trans g2).trans g3).trans g4) q4
  · split at e
    · rename_i ds hd
      split at e
      · cases e
      · rename_i hb
        cases e
        obtain ⟨c, vs, rfl, q, rr⟩ := asT_ok g3.rel rx3 hd
        refine .inr ⟨c, vs, rfl, SqT.sub g3.rel.sub q, by rw [rr.length]; exact hb, fun p hp => ?_⟩
        obtain ⟨r4, s4⟩ := g3.rel.newF (o := .tup (cutV vs a b)) hp
        refine k _ ad3 _ _ (((g1.trans g2).trans g3).trans ⟨s4, r4⟩) (Rep.tup (.of upd_same) ?_)
        have z : RepTs X.K F3 ad3 (cutG vs a b) (cutG (ds.map T.d) a b) := Paired.cut rr.ts a b
        rw [cutG_map] at z
        exact (Reps.ofT z).mono s4.fsub
    · cases e
  · cases e
/-! ### truth -/
def cTr (f : EF) : BF := fun σ S => (f σ S).bind fun p => match deref p.1 p.2 with
  | .d (.bl b) => some (b, p.2)
  | .d .non => some (false, p.2)
  | .d (.int i) => some (i != 0, p.2)
  | .d (.str z) => if z.length ≤ sizeLine then some (z.length != 0, p.2) else none
  | u => (match seqOf u p.2 with
    | some (_, ts) => some (!ts.isEmpty, p.2)
    | none => none)
theorem Paired.isEmpty {α β : Type} {R : α → β → Prop} {vs : List α} {ds : List β} (r : Paired R vs ds) : vs.isEmpty = ds.isEmpty := by
  cases r <;> rfl
/-! ### calls that give back what they took -/
def below (n : Nat) : T → Bool
  | .d _ => true
  | .own p => decide (p < n)
def cellBelow (n : Nat) : Cell → Bool
  | .lst ts => ts.all (below n)
  | .ins _ fs => fs.all fun q => below n q.2
  | .frz _ => true
theorem RepT.cut {K : Frg} {F : Hp} {ad : List Addr} {n : Nat} {v : V} {t : T} (r : RepT K F ad v t) (h : below n t = true) : RepT K F (ad.take n) v t := by
  cases t with
  | d d => exact r
  | own p =>
    obtain ⟨a, hp, rfl⟩ := r
    exact ⟨a, by rw [List.getElem?_take, if_pos (of_decide_eq_true h)]; exact hp, rfl⟩
theorem RepTs.cut {K : Frg} {F : Hp} {ad : List Addr} {n : Nat} : ∀ {vs : List V} {ts : List T}, RepTs K F ad vs ts → ts.all (below n) = true → RepTs K F (ad.take n) vs ts
  | _, _, .nil, _ => .nil
  | _, _, .cons q r, h => by
    rw [List.all_cons, Bool.and_eq_true] at h
    exact .cons (RepT.cut q h.1) (RepTs.cut r h.2)
theorem RepTF.cut {K : Frg} {F : Hp} {ad : List Addr} {n : Nat} : ∀ {vs : List (Str × V)} {ts : List (Str × T)}, RepTF K F ad vs ts → ts.all (fun q => below n q.2) = true → RepTF K F (ad.take n) vs ts
  | _, _, .nil, _ => .nil
  | _, _, .cons q r, h => by
    rw [List.all_cons, Bool.and_eq_true] at h
    exact .cons ⟨q.1, RepT.cut q.2 h.1⟩ (RepTF.cut r h.2)
theorem RelS.cut {K : Frg} {F : Hp} {ad : List Addr} {S : Cs} {H : Hp} (r : RelS K F ad S H) (n : Nat) (h : (S.take n).all (cellBelow n) = true) : RelS K F (ad.take n) (S.take n) H := by
  refine ⟨r.sub, r.nd.sublist (List.take_sublist _ _), by simp [r.len], fun p a c e1 e2 => ?_⟩
  have hb := List.all_eq_true.mp h c (List.mem_of_getElem? e2)
  rw [List.getElem?_take] at e1 e2
  split at e1
  · rename_i hp
    rw [if_pos hp] at e2
    have q := r.cells p a c e1 e2
    cases c with
    | lst ts => obtain ⟨x, vs, hh, q⟩ := q; exact ⟨x, vs, hh, RepTs.cut q hb⟩
    | ins c fs => obtain ⟨x, dx, fvs, hh, q⟩ := q; exact ⟨x, dx, fvs, hh, RepTF.cut q hb⟩
    | frz d => exact q
  · cases e1
theorem Go.cut {K : Frg} {F : Hp} {ad : List Addr} {H F' : Hp} {ad' : List Addr} {H' : Hp} {S S' : Cs} (r : RelS K F ad S H) (g : Go K F ad H F' ad' H' S') (h : (S'.take S.length).all (cellBelow S.length) = true) : Go K F ad H F' ad H' (S'.take S.length) ∧ ad'.take S.length = ad := by
  obtain ⟨l, el, _⟩ := g.st.adx
  have e : ad'.take S.length = ad := by rw [el, ← r.len, List.take_left]
  have q := g.rel.cut S.length h
  rw [e] at q
  exact ⟨⟨⟨g.st.fsub, g.st.fnew, ⟨[], by simp, fun _ h => by simp at h⟩, g.st.keep, g.st.alive⟩, q⟩, e⟩
/-- the answer is data (or a local object that was there); new local objects are forgotten -/
def cCallT (m : MF) (dts : List T) (n : Nat) (fs : AF) : EF := fun σ S => (fs σ S).bind fun p => if (p.1 ++ dts).length = n then
  (m (p.1 ++ dts) p.2).bind fun u => if below p.2.length u.1 = true then (if (u.2.take p.2.length).all (cellBelow p.2.length) = true then some (u.1, u.2.take p.2.length) else none)
    else (toD dep u.1 u.2).bind fun w => if (w.2.take p.2.length).all (cellBelow p.2.length) = true then some (.d w.1, w.2.take p.2.length) else none
  else none
/-- the answer may be a new list; other new local objects are forgotten -/
def cCallU (m : MF) (dts : List T) (n : Nat) (fs : AF) : EF := fun σ S => (fs σ S).bind fun p => if (p.1 ++ dts).length = n then
  (m (p.1 ++ dts) p.2).bind fun u => match u.1 with
    | .d d => if (u.2.take p.2.length).all (cellBelow p.2.length) = true then some (.d d, u.2.take p.2.length) else none
    | .own j => if j < p.2.length then none else (match u.2[j]? with
      | some (.lst ts) => (toDs ts u.2).bind fun w => if isFrz w.2[j]? = true then none else
          if (w.2.take p.2.length).all (cellBelow p.2.length) = true then some (.own p.2.length, w.2.take p.2.length ++ [.lst (w.1.map .d)]) else none
      | _ => none)
  else none
section
variable {n : Nat} {m : MF} {dvs : List V} {dts : List T} {E : XK} {fs : AF}
theorem callT_rd (hdv : ∀ F ad, RepTs X.K F ad dvs dts) {τ : L2.St} {H : Hp} {Q : VK} (h : tE X.K (cCallT m dts n fs) τ H Q) : tCall (spF X.K n m) dvs E (tA X.K fs) τ H Q := by
  obtain ⟨F, ad, σ, S, t, S', r, so, e, k⟩ := h
  obtain ⟨⟨ts, S1⟩, e1, e⟩ := bind_some e
  simp only at e
  split at e
  case isFalse => cases e
  rename_i hn
  obtain ⟨⟨u, S2⟩, e2, e⟩ := bind_some e
  refine ⟨F, ad, σ, S, ts, S1, r, so, e1, fun F1 ad1 H1 vs g1 rs => ⟨F1, ad1, S1, ts ++ dts, u, S2, g1.rel, Paired.append rs (hdv _ _), hn, e2, fun F' ad' H' v g rv => ?_⟩⟩
  simp only at e
  split at e
  · rename_i hb
    split at e
    case isFalse => cases e
    rename_i hc
    cases e
    obtain ⟨g2, ea⟩ := Go.cut g1.rel g hc
    have rv2 := RepT.cut rv hb
    rw [ea] at rv2
    exact k F' ad1 H' v (g1.trans g2) rv2
  · obtain ⟨⟨w, S3⟩, e3, e⟩ := bind_some e
    simp only at e
    split at e
    case isFalse => cases e
    rename_i hc
    cases e
    obtain ⟨F3, g3, p3⟩ := toD_ok dep u S2 w S3 F' ad' H' v g.rel rv e3
    obtain ⟨g4, ea⟩ := Go.cut g1.rel (g.trans g3.go) hc
    exact k F3 ad1 H' v (g1.trans g4) p3
theorem callU_rd (hdv : ∀ F ad, RepTs X.K F ad dvs dts) {τ : L2.St} {H : Hp} {Q : VK} (h : tE X.K (cCallU m dts n fs) τ H Q) : tCall (spF X.K n m) dvs E (tA X.K fs) τ H Q := by
  obtain ⟨F, ad, σ, S, t, S', r, so, e, k⟩ := h
  obtain ⟨⟨ts, S1⟩, e1, e⟩ := bind_some e
  simp only at e
  split at e
  case isFalse => cases e
  rename_i hn
  obtain ⟨⟨u, S2⟩, e2, e⟩ := bind_some e
  refine ⟨F, ad, σ, S, ts, S1, r, so, e1, fun F1 ad1 H1 vs g1 rs => ⟨F1, ad1, S1, ts ++ dts, u, S2, g1.rel, Paired.append rs (hdv _ _), hn, e2, fun F' ad' H' v g rv => ?_⟩⟩
  simp only at e
  cases u with
  | d d =>
    simp only at e
    split at e
    case isFalse => cases e
    rename_i hc
    cases e
    obtain ⟨g2, ea⟩ := Go.cut g1.rel g hc
    exact k F' ad1 H' v (g1.trans g2) rv
  | own j =>
    simp only at e
    split at e
    · cases e
    rename_i hj
    split at e
    case h_2 => cases e
    rename_i us hu
    obtain ⟨⟨ws, S3⟩, e3, e⟩ := bind_some e
    simp only at e
    split at e
    · cases e
    rename_i hz
    split at e
    case isFalse => cases e
    rename_i hc
    cases e
    obtain ⟨a, hp, rfl⟩ := rv
    obtain ⟨_, zs, hH, rz⟩ := g.rel.cells j a _ hp hu
    obtain ⟨F3, g3, p3⟩ := toDs_ok g.rel rz e3
    obtain ⟨nF, c1, hc1⟩ := g3.rel.notF hp hz
    obtain ⟨g4, ea⟩ := Go.cut g1.rel (g.trans g3.go) hc
    obtain ⟨l, el, hl⟩ := g.st.adx
    have fresh : H1 a = none := by
      rw [el, List.getElem?_append_right (by rw [g1.rel.len]; exact Nat.le_of_not_lt hj)] at hp
      exact hl a (List.mem_of_getElem? hp)
    have na : a ∉ ad1 := fun z => by
      obtain ⟨o, ho⟩ := g1.rel.there z
      rw [fresh] at ho; cases ho
    have rel := g4.rel.adopt (c := .lst (ws.map .d)) na fun l => ⟨nF, zs, hH, p3.ts⟩
    have st : Step F1 ad1 H1 F3 (ad1 ++ [a]) H' := ⟨g4.st.fsub, g4.st.fnew, ⟨[a], rfl, fun b hb => by rw [List.mem_singleton.mp hb]; exact fresh⟩, g4.st.keep, g4.st.alive⟩
    have ll : ((S3.take S1.length)).length = S1.length := by rw [← g4.rel.len, g1.rel.len]
    exact k F3 (ad1 ++ [a]) H' _ (g1.trans ⟨st, rel⟩) ⟨a, by rw [List.getElem?_append_right (by rw [g1.rel.len]; exact Nat.le_refl _), g1.rel.len]; simp, rfl⟩
end
/-! ### new local objects that nothing holds are forgotten -/
def trimT (n : Nat) (o : Option (T × Cs)) : Option (T × Cs) := o.bind fun p => if below n p.1 = true then (if (p.2.take n).all (cellBelow n) = true then some (p.1, p.2.take n) else none) else some p
def trimB (n : Nat) (o : Option (Bool × Cs)) : Option (Bool × Cs) := o.bind fun p => if (p.2.take n).all (cellBelow n) = true then some (p.1, p.2.take n) else none
def cTrim (f : EF) : EF := fun σ S => trimT S.length (f σ S)
def cTrimB (f : BF) : BF := fun σ S => trimB S.length (f σ S)
theorem fe_trim {e : Expr} {f : EF} (h : FE X e f) : FE X e (cTrim f) := by
  refine PE.imp h fun τ H Q ⟨F, ad, σ, S, t, S', r, so, e, k⟩ => ?_
  obtain ⟨⟨u, S1⟩, e1, e⟩ := bind_some e
  refine ⟨F, ad, σ, S, u, S1, r, so, e1, fun F1 ad1 H1 v g1 rv => ?_⟩
  simp only at e
  split at e
  · rename_i hb
    split at e
    case isFalse => cases e
    rename_i hc
    cases e
    obtain ⟨g2, ea⟩ := Go.cut r g1 hc
    have rv2 := RepT.cut rv hb
    rw [ea] at rv2
    exact k F1 ad H1 v g2 rv2
  · cases e
    exact k F1 ad1 H1 v g1 rv
theorem fb_trim {e : Expr} {f : BF} (h : FB X e f) : FB X e (cTrimB f) := by
  refine PT.imp h fun τ H Q ⟨F, ad, σ, S, t, S', r, so, e, k⟩ => ?_
  obtain ⟨⟨u, S1⟩, e1, e⟩ := bind_some e
  refine ⟨F, ad, σ, S, u, S1, r, so, e1, fun F1 ad1 H1 g1 => ?_⟩
  simp only at e
  split at e
  case isFalse => cases e
  rename_i hc
  cases e
  obtain ⟨g2, ea⟩ := Go.cut r g1 hc
  exact k F1 ad H1 g2
end
end FL
/-! FL: a def of the text and its function; the law's end. -/
namespace FL
open PySem PySem.Spec PyProof.Rows L2
/-- the def that the module's name x stands for does what m does -/
structure OkD (P : Program) (w : World) (K : Frg) (mg : Str → Option Value) (k : Nat) (x : Str) (ps : List Str) (m : MF) : Prop where
  ex : ∃ fd, (∀ base : Heap, FnOk P w K mg base CX0 k (He.ga K x) fd ps (spF K ps.length m)) ∧ Binds K fd ps [] ∧ ∀ (s : Shared) (us : List Value), us.length = ps.length → BindsTo s fd ⟨us, []⟩ (ps.zip us)
  kp : PySem.W.keepIn K (.ref (He.ga K x)) = true
  g : mg x = some (.ref (He.ga K x))
section
variable {P : Program} {w : World} {K : Frg} {mg : Str → Option Value}
theorem mkD {x : Str} {params : Arguments} {body : List Stmt} {scope : Scope} {N ps : List Str} {k : Nat} {g : SF} (F : ∃ fd, FunD K x x params body scope [] [] (He.ga K x) fd) (hg : mg x = some (.ref (He.ga K x))) (S : FnScope N ps scope)
    (hb : ∀ (kV doc pm : Value) (an : Option Addr) (cdv ct : Value) (us : List Value), us.length = ps.length → bindArgs (PySem.W.fnOf x x params body scope .none kV doc pm an cdv ct) ⟨us, []⟩ = pure (ps.zip us))
    (hbody : ∀ (base : Heap) (cdv : Value) (A : Around) (outer : List Env) (s : Shared) (H : Hp) (E : XK), Room k (A.deeper (envOfC x scope s.heap.objs.size (He.ga K x) cdv)) → FSs (cxOf CX0 P w K mg base N x scope (He.ga K x) cdv A outer s H E).nox body g) :
    OkD P w K mg (k + 1) x ps (fnM N.length g) := by
  obtain ⟨fd, F⟩ := F
  exact ⟨⟨fd, fun base => def_ok F S (hbody base), F.bindsN hb, fun s us hl => FunD.bindsA F hb s us hl⟩, F.kp, hg⟩
theorem OkD.mono {j k : Nat} {x : Str} {ps : List Str} {m : MF} (O : OkD P w K mg j x ps m) (h : j ≤ k) : OkD P w K mg k x ps m := by
  obtain ⟨fd, G, b⟩ := O.ex
  exact ⟨⟨fd, fun base => (G base).mono h, b⟩, O.kp, O.g⟩
end
section
variable {X : Cx} {k : Nat} {x : Str} {ps : List Str} {m : MF} {p pos : Pos} {e : Expr} {es : List Expr} {fs : AF}
theorem fe_cD {c : EF} (hc : ∀ τ H Q, tE X.K c τ H Q → tCall (spF X.K ps.length m) [] E0 (tA X.K fs) τ H Q) (O : OkD X.prog X.w X.K X.mg k x ps m) (hr : Room k X.A) (ha : FA X (e :: es) fs) (hg : Gl X x) (hdb : (x == ("__debug__" : Str)) = false)
    (hs : starEach (e :: es) X.env = (false, eval e X.env) :: starEach es X.env) (hpl : (backTo pos (starEach es X.env)).any (·.1) = false) : FE X (.Call (.Name x p) (e :: es) [] pos) c := by
  obtain ⟨fd, G, b, _⟩ := O.ex
  exact fe_call hc (G _) hr hg O.g O.kp b .nil pass0 ha hdb hs hpl
theorem fe_cP {n : Nat} (O : OkD X.prog X.w X.K X.mg k x ps m) (hr : Room k X.A) (ha : FA X (e :: es) fs) (hn : ps.length = n := by rfl) (hg : Gl X x := by rfl) (hdb : (x == ("__debug__" : Str)) = false := by decide)
    (hs : starEach (e :: es) X.env = (false, eval e X.env) :: starEach es X.env := by rfl) (hpl : (backTo pos (starEach es X.env)).any (·.1) = false := by rfl) : FE X (.Call (.Name x p) (e :: es) [] pos) (cCallP m [] n fs) := by
  subst hn
  exact fe_cD (fun _ _ _ h => callP_rd (fun _ _ => .nil) h) O hr ha hg hdb hs hpl
theorem fe_cN {n : Nat} (O : OkD X.prog X.w X.K X.mg k x ps m) (hr : Room k X.A) (ha : FA X (e :: es) fs) (hn : ps.length = n := by rfl) (hg : Gl X x := by rfl) (hdb : (x == ("__debug__" : Str)) = false := by decide)
    (hs : starEach (e :: es) X.env = (false, eval e X.env) :: starEach es X.env := by rfl) (hpl : (backTo pos (starEach es X.env)).any (·.1) = false := by rfl) : FE X (.Call (.Name x p) (e :: es) [] pos) (cCallN m [] n fs) := by
  subst hn
  exact fe_cD (fun _ _ _ h => callN_rd (fun _ _ => .nil) h) O hr ha hg hdb hs hpl
theorem fe_cT {n : Nat} (O : OkD X.prog X.w X.K X.mg k x ps m) (hr : Room k X.A) (ha : FA X (e :: es) fs) (hn : ps.length = n := by rfl) (hg : Gl X x := by rfl) (hdb : (x == ("__debug__" : Str)) = false := by decide)
    (hs : starEach (e :: es) X.env = (false, eval e X.env) :: starEach es X.env := by rfl) (hpl : (backTo pos (starEach es X.env)).any (·.1) = false := by rfl) : FE X (.Call (.Name x p) (e :: es) [] pos) (cCallT m [] n fs) := by
  subst hn
  exact fe_cD (fun _ _ _ h => callT_rd (fun _ _ => .nil) h) O hr ha hg hdb hs hpl
theorem fe_cU {n : Nat} (O : OkD X.prog X.w X.K X.mg k x ps m) (hr : Room k X.A) (ha : FA X (e :: es) fs) (hn : ps.length = n := by rfl) (hg : Gl X x := by rfl) (hdb : (x == ("__debug__" : Str)) = false := by decide)
    (hs : starEach (e :: es) X.env = (false, eval e X.env) :: starEach es X.env := by rfl) (hpl : (backTo pos (starEach es X.env)).any (·.1) = false := by rfl) : FE X (.Call (.Name x p) (e :: es) [] pos) (cCallU m [] n fs) := by
  subst hn
  exact fe_cD (fun _ _ _ h => callU_rd (fun _ _ => .nil) h) O hr ha hg hdb hs hpl
theorem fe_cS {n : Nat} (O : OkD X.prog X.w X.K X.mg k x ps m) (hr : Room k X.A) (ha : FA X (e :: es) fs) (hn : ps.length = n := by rfl) (hg : Gl X x := by rfl) (hdb : (x == ("__debug__" : Str)) = false := by decide)
    (hs : starEach (e :: es) X.env = (false, eval e X.env) :: starEach es X.env := by rfl) (hpl : (backTo pos (starEach es X.env)).any (·.1) = false := by rfl) : FE X (.Call (.Name x p) (e :: es) [] pos) (cCallS m [] n fs) := by
  subst hn
  exact fe_cD (fun _ _ _ h => callS_rd (fun _ _ => .nil) h) O hr ha hg hdb hs hpl
end
theorem sc_mk {N ps : List Str} {sc : Scope} (h1 : sc.kind = .function) (h2 : sc.isCoroutine = false) (h3 : sc.isGenerator = false) (h4 : N.Nodup) (h5 : N.take ps.length = ps) (h6 : ∀ x ∈ ps, sc.names.lookup x = some .local ∨ sc.names.lookup x = some .cell) (h7 : ∀ y ∈ sc.names, y.2 ≠ .free) : FnScope N ps sc := ⟨h1, h2, h3, h4, h5, h6, h7⟩
theorem law_sp {K : Frg} {m : MF} {n : Nat} (hm : ∀ ns : List Int, ns.length ≤ n → ∃ S', m [.d (.scr ns)] [] = some (.d (.bl true), S')) (H : Hp) (a : Addr) (ns : List Int) (hl : ns.length ≤ n) (hS : SqL K H a (ns.map V.int)) :
    spF K 1 m [.ref a] H (fun v _ => v = .bl true) fun _ _ _ => False := by
  obtain ⟨S', e⟩ := hm ns hl
  exact ⟨H, [], [], [.d (.scr ns)], .d (.bl true), S', ⟨fun _ _ h => h, List.nodup_nil, rfl, fun p a c e _ => by simp at e⟩, .cons (Rep.scr hS) .nil, rfl, e, fun F' ad' H' v g rv => rv.bl⟩
end FL
/-! FL: how the functions are reckoned (by simp, from the inside), the draws. -/
namespace FL
open PySem PySem.Spec PyProof.Rows L2
abbrev ti (i : Int) : T := .d (.int i)
abbrev tb (b : Bool) : T := .d (.bl b)
/-! ### one step at a time: each is handed the value of its first part -/
def slotK (o : Option (Option T)) (S : Cs) : Option (T × Cs) := match o with
  | some (some t) => some (t, S)
  | _ => none
def binK (o : Option (T × Cs)) (g : OF) (fb : EF) (σ : Sg) : Option (T × Cs) := o.bind fun p => (fb σ p.2).bind fun q => g p.1 q.1 q.2
def binK2 (x : T) (o : Option (T × Cs)) (g : OF) : Option (T × Cs) := o.bind fun q => g x q.1 q.2
def setK (i : Nat) (o : Option (T × Cs)) (σ : Sg) : Option (Fl × Sg × Cs) := o.map fun p => (.nx, σ.set i (some p.1), p.2)
def retK (o : Option (T × Cs)) (σ : Sg) : Option (Fl × Sg × Cs) := o.map fun p => (.rt p.1, σ, p.2)
def dropK (o : Option (T × Cs)) (σ : Sg) : Option (Fl × Sg × Cs) := o.map fun p => (.nx, σ, p.2)
def seqK (o : Option (Fl × Sg × Cs)) (g : SF) : Option (Fl × Sg × Cs) := o.bind fun o => match o.1 with
  | .nx => g o.2.1 o.2.2
  | _ => some o
def ifK (o : Option (Bool × Cs)) (f g : SF) (σ : Sg) : Option (Fl × Sg × Cs) := o.bind fun p => if p.1 = true then f σ p.2 else g σ p.2
def ifEK (o : Option (Bool × Cs)) (f g : EF) (σ : Sg) : Option (T × Cs) := o.bind fun p => if p.1 = true then f σ p.2 else g σ p.2
def bK (o : Option (T × Cs)) : Option (Bool × Cs) := o.bind fun p => match p.1 with
  | .d (.bl b) => some (b, p.2)
  | _ => none
def andK (o : Option (Bool × Cs)) (g : BF) (σ : Sg) : Option (Bool × Cs) := o.bind fun p => if p.1 = true then g σ p.2 else some (false, p.2)
def orK (o : Option (Bool × Cs)) (g : BF) (σ : Sg) : Option (Bool × Cs) := o.bind fun p => if p.1 = true then some (true, p.2) else g σ p.2
def andVK (o : Option (Bool × Cs)) (g : EF) (σ : Sg) : Option (T × Cs) := o.bind fun p => if p.1 = true then g σ p.2 else some (.d (.bl false), p.2)
def orVK (o : Option (Bool × Cs)) (g : EF) (σ : Sg) : Option (T × Cs) := o.bind fun p => if p.1 = true then some (.d (.bl true), p.2) else g σ p.2
def notK (o : Option (Bool × Cs)) : Option (Bool × Cs) := o.map fun p => (!p.1, p.2)
def bvK (o : Option (Bool × Cs)) : Option (T × Cs) := o.map fun p => (.d (.bl p.1), p.2)
def consK (o : Option (T × Cs)) (g : AF) (σ : Sg) : Option (List T × Cs) := o.bind fun p => (g σ p.2).map fun q => (p.1 :: q.1, q.2)
def consK2 (t : T) (o : Option (List T × Cs)) : Option (List T × Cs) := o.map fun q => (t :: q.1, q.2)
def tupK (o : Option (List T × Cs)) : Option (T × Cs) := o.bind fun p => if p.1.length ≤ sizeLine then (toDs p.1 p.2).map fun q => (.d (.tup q.1), q.2) else none
def lstK (o : Option (List T × Cs)) : Option (T × Cs) := o.bind fun p => if p.1.length ≤ sizeLine then some (.own p.2.length, p.2 ++ [.lst p.1]) else none
def cbK (g : MF) (o : Option (List T × Cs)) : Option (T × Cs) := o.bind fun p => g p.1 p.2
def mtK (o : Option (T × Cs)) (g : NF) (fs : AF) (σ : Sg) : Option (T × Cs) := o.bind fun p => if isLst p.1 p.2 = true then (fs σ p.2).bind fun q => g p.1 q.1 q.2 else none
def mtK2 (g : NF) (x : T) (o : Option (List T × Cs)) : Option (T × Cs) := o.bind fun q => g x q.1 q.2
def unK (g : T → Cs → Option (T × Cs)) (o : Option (T × Cs)) : Option (T × Cs) := o.bind fun p => g p.1 p.2
def chK (o : Option (T × Cs)) (g g' : OF) (fb fc : EF) (σ : Sg) : Option (T × Cs) := o.bind fun p => (fb σ p.2).bind fun q => (g p.1 q.1 q.2).bind fun z => match z.1 with
  | .d (.bl true) => (fc σ z.2).bind fun u => g' q.1 u.1 u.2
  | .d (.bl false) => some (.d (.bl false), z.2)
  | _ => none
def chK2 (x : T) (o : Option (T × Cs)) (g g' : OF) (fc : EF) (σ : Sg) : Option (T × Cs) := o.bind fun q => (g x q.1 q.2).bind fun z => match z.1 with
  | .d (.bl true) => (fc σ z.2).bind fun u => g' q.1 u.1 u.2
  | .d (.bl false) => some (.d (.bl false), z.2)
  | _ => none
def chK3 (y : T) (o : Option (T × Cs)) (g' : OF) (fc : EF) (σ : Sg) : Option (T × Cs) := o.bind fun z => match z.1 with
  | .d (.bl true) => (fc σ z.2).bind fun u => g' y u.1 u.2
  | .d (.bl false) => some (.d (.bl false), z.2)
  | _ => none
def subK (o : Option (T × Cs)) (fo fi : EF) (σ : Sg) : Option (Fl × Sg × Cs) := o.bind fun p => (fo σ p.2).bind fun q => (fi σ q.2).bind fun u => match ownOf q.1 u.2, asI u.1 with
  | some (k, ts), some i => (ixN ts.length i).map fun j => (.nx, σ, u.2.set k (.lst (ts.set j p.1)))
  | _, _ => none
def subK2 (v : T) (o : Option (T × Cs)) (fi : EF) (σ : Sg) : Option (Fl × Sg × Cs) := o.bind fun q => (fi σ q.2).bind fun u => match ownOf q.1 u.2, asI u.1 with
  | some (k, ts), some i => (ixN ts.length i).map fun j => (.nx, σ, u.2.set k (.lst (ts.set j v)))
  | _, _ => none
def subK3 (v x : T) (o : Option (T × Cs)) (σ : Sg) : Option (Fl × Sg × Cs) := o.bind fun u => match ownOf x u.2, asI u.1 with
  | some (k, ts), some i => (ixN ts.length i).map fun j => (.nx, σ, u.2.set k (.lst (ts.set j v)))
  | _, _ => none
def augK (i : Nat) (o : Option (T × Cs)) (g : OF) (f : EF) (σ : Sg) : Option (Fl × Sg × Cs) := o.bind fun p => (f σ p.2).bind fun q => (g p.1 q.1 q.2).map fun u => (.nx, σ.set i (some u.1), u.2)
def augK2 (i : Nat) (x : T) (o : Option (T × Cs)) (g : OF) (σ : Sg) : Option (Fl × Sg × Cs) := o.bind fun q => (g x q.1 q.2).map fun u => (.nx, σ.set i (some u.1), u.2)
def asgK (g : GF) (o : Option (T × Cs)) (σ : Sg) : Option (Fl × Sg × Cs) := o.bind fun p => (g (.one p.1) σ p.2).map fun q => (.nx, q.1, q.2)
noncomputable def forK (o : Option (List Itm × Gs × Cs)) (g : GF) (body : SF) (cl : List Nat) (σ : Sg) : Option (Fl × Sg × Cs) := o.bind fun p => loopF g body cl p.2.1 p.1 (forget cl σ) p.2.2
noncomputable def compK (o : Option (List Itm × Gs × Cs)) (g : GF) (t : BF) (f : EF) (vs : List Nat) (σ : Sg) : Option (T × Cs) := o.bind fun p => (compL g t f (forget vs σ) p.2.1 p.1 p.2.2).bind fun q => if q.1.length ≤ sizeLine then some (.own q.2.length, q.2 ++ [.lst q.1]) else none
def compK2 (o : Option (List T × Cs)) : Option (T × Cs) := o.bind fun q => if q.1.length ≤ sizeLine then some (.own q.2.length, q.2 ++ [.lst q.1]) else none
def iEK (o : Option (T × Cs)) : Option (List Itm × Gs × Cs) := o.bind fun p => (seqG p.1 p.2).map fun q => (q.2.1.map .one, q.2.2, p.2)
def fnK (o : Option (Fl × Sg × Cs)) : Option (T × Cs) := o.bind fun o => match o.1 with
  | .nx => some (.d .non, o.2.2)
  | .rt t => some (t, o.2.2)
  | _ => none
def callK (c : MF → List T → Cs → Option (T × Cs)) (m : MF) (o : Option (List T × Cs)) : Option (T × Cs) := o.bind fun p => c m p.1 p.2
section
variable {f g : SF} {fa fb fc : EF} {σ : Sg} {S : Cs} {x y t : T} {c c' : BF} {as' : AF} {o g' g2 : OF} {ts : List T} {b : Bool}
@[simp] theorem cV_ap {i : Nat} : cV i σ S = slotK σ[i]? S := rfl
@[simp] theorem slotK_s : slotK (some (some t)) S = some (t, S) := rfl
@[simp] theorem cK_ap {d : D} : cK d σ S = some (.d d, S) := rfl
@[simp] theorem cBin_ap : cBin o fa fb σ S = binK (fa σ S) o fb σ := rfl
@[simp] theorem binK_s : binK (some (x, S)) o fb σ = binK2 x (fb σ S) o := rfl
@[simp] theorem binK2_s : binK2 x (some (y, S)) o = o x y S := rfl
@[simp] theorem cSet_ap {i : Nat} : cSet i fa σ S = setK i (fa σ S) σ := rfl
@[simp] theorem setK_s {i : Nat} : setK i (some (x, S)) σ = some (.nx, σ.set i (some x), S) := rfl
@[simp] theorem cRet_ap : cRet fa σ S = retK (fa σ S) σ := rfl
@[simp] theorem retK_s : retK (some (x, S)) σ = some (.rt x, σ, S) := rfl
@[simp] theorem cRetN_ap : cRetN σ S = some (.rt (.d .non), σ, S) := rfl
@[simp] theorem cNx_ap : cNx σ S = some (.nx, σ, S) := rfl
@[simp] theorem cBk_ap : cBk σ S = some (.bk, σ, S) := rfl
@[simp] theorem cCt_ap : cCt σ S = some (.ct, σ, S) := rfl
@[simp] theorem cDrop_ap : cDrop fa σ S = dropK (fa σ S) σ := rfl
@[simp] theorem dropK_s : dropK (some (x, S)) σ = some (.nx, σ, S) := rfl
@[simp] theorem cSeq_ap : cSeq f g σ S = seqK (f σ S) g := rfl
@[simp] theorem seqK_nx : seqK (some (.nx, σ, S)) g = g σ S := rfl
@[simp] theorem seqK_rt : seqK (some (.rt t, σ, S)) g = some (.rt t, σ, S) := rfl
@[simp] theorem seqK_bk : seqK (some (.bk, σ, S)) g = some (.bk, σ, S) := rfl
@[simp] theorem seqK_ct : seqK (some (.ct, σ, S)) g = some (.ct, σ, S) := rfl
@[simp] theorem cIfS_ap : cIfS c f g σ S = ifK (c σ S) f g σ := rfl
@[simp] theorem ifK_t : ifK (some (true, S)) f g σ = f σ S := rfl
@[simp] theorem ifK_f : ifK (some (false, S)) f g σ = g σ S := rfl
@[simp] theorem cIf_ap : cIf c fa fb σ S = ifEK (c σ S) fa fb σ := rfl
@[simp] theorem ifEK_t : ifEK (some (true, S)) fa fb σ = fa σ S := rfl
@[simp] theorem ifEK_f : ifEK (some (false, S)) fa fb σ = fb σ S := rfl
@[simp] theorem cB_ap : cB fa σ S = bK (fa σ S) := rfl
@[simp] theorem bK_s : bK (some (.d (.bl b), S)) = some (b, S) := rfl
@[simp] theorem cAnd_ap : cAnd c c' σ S = andK (c σ S) c' σ := rfl
@[simp] theorem andK_t : andK (some (true, S)) c σ = c σ S := rfl
@[simp] theorem andK_f : andK (some (false, S)) c σ = some (false, S) := rfl
@[simp] theorem cOr_ap : cOr c c' σ S = orK (c σ S) c' σ := rfl
@[simp] theorem orK_t : orK (some (true, S)) c σ = some (true, S) := rfl
@[simp] theorem orK_f : orK (some (false, S)) c σ = c σ S := rfl
@[simp] theorem cNot_ap : cNot c σ S = notK (c σ S) := rfl
@[simp] theorem notK_s : notK (some (b, S)) = some (!b, S) := rfl
@[simp] theorem cBV_ap : cBV c σ S = bvK (c σ S) := rfl
@[simp] theorem bvK_s : bvK (some (b, S)) = some (.d (.bl b), S) := rfl
@[simp] theorem cAndV_ap : cAndV fa fb σ S = andVK (cB fa σ S) fb σ := rfl
@[simp] theorem andVK_t : andVK (some (true, S)) fb σ = fb σ S := rfl
@[simp] theorem andVK_f : andVK (some (false, S)) fb σ = some (.d (.bl false), S) := rfl
@[simp] theorem cOrV_ap : cOrV fa fb σ S = orVK (cB fa σ S) fb σ := rfl
@[simp] theorem orVK_t : orVK (some (true, S)) fb σ = some (.d (.bl true), S) := rfl
@[simp] theorem orVK_f : orVK (some (false, S)) fb σ = fb σ S := rfl
@[simp] theorem aNil_ap : aNil σ S = some ([], S) := rfl
@[simp] theorem aCons_ap : aCons fa as' σ S = consK (fa σ S) as' σ := rfl
@[simp] theorem consK_s : consK (some (x, S)) as' σ = consK2 x (as' σ S) := rfl
@[simp] theorem consK2_s : consK2 x (some (ts, S)) = some (x :: ts, S) := rfl
@[simp] theorem cTup_ap : cTup as' σ S = tupK (as' σ S) := rfl
@[simp] theorem cLst_ap : cLst as' σ S = lstK (as' σ S) := rfl
@[simp] theorem cCB_ap {m : MF} : cCB m as' σ S = cbK m (as' σ S) := rfl
@[simp] theorem cbK_s {m : MF} : cbK m (some (ts, S)) = m ts S := rfl
@[simp] theorem cMt_ap {n : NF} : cMt n fa as' σ S = mtK (fa σ S) n as' σ := rfl
theorem mtK_s {n : NF} (h : isLst x S = true) : mtK (some (x, S)) n as' σ = mtK2 n x (as' σ S) := by
  unfold mtK mtK2; simp [h]
@[simp] theorem mtK2_s {n : NF} : mtK2 n x (some (ts, S)) = n x ts S := rfl
@[simp] theorem cUn_ap {u : T → Cs → Option (T × Cs)} : cUn u fa σ S = unK u (fa σ S) := rfl
@[simp] theorem unK_s {u : T → Cs → Option (T × Cs)} : unK u (some (x, S)) = u x S := rfl
@[simp] theorem cChain_ap : cChain o g' fa fb fc σ S = chK (fa σ S) o g' fb fc σ := rfl
@[simp] theorem chK_s : chK (some (x, S)) o g' fb fc σ = chK2 x (fb σ S) o g' fc σ := rfl
@[simp] theorem chK2_s : chK2 x (some (y, S)) o g' fc σ = chK3 y (o x y S) g' fc σ := rfl
@[simp] theorem chK3_t : chK3 y (some (.d (.bl true), S)) g' fc σ = binK2 y (fc σ S) g' := rfl
@[simp] theorem chK3_f : chK3 y (some (.d (.bl false), S)) g' fc σ = some (.d (.bl false), S) := rfl
@[simp] theorem cSub_ap : cSub fa fb fc σ S = subK (fc σ S) fa fb σ := rfl
@[simp] theorem subK_s : subK (some (x, S)) fa fb σ = subK2 x (fa σ S) fb σ := rfl
@[simp] theorem subK2_s : subK2 x (some (y, S)) fb σ = subK3 x y (fb σ S) σ := rfl
theorem subK3_s {k j : Nat} {i : Int} (h : S[k]? = some (.lst ts)) (hi : ixN ts.length i = some j) : subK3 x (.own k) (some (ti i, S)) σ = some (.nx, σ, S.set k (.lst (ts.set j x))) := by
  unfold subK3 ownOf asI
  simp [h, hi]
@[simp] theorem cAug_ap {i : Nat} : cAug i o fa σ S = augK i (cV i σ S) o fa σ := rfl
@[simp] theorem augK_s {i : Nat} : augK i (some (x, S)) o fa σ = augK2 i x (fa σ S) o σ := rfl
@[simp] theorem augK2_s {i : Nat} : augK2 i x (some (y, S)) o σ = setK i (o x y S) σ := rfl
@[simp] theorem cAsgT_ap {gt : GF} : cAsgT gt fa σ S = asgK gt (fa σ S) σ := rfl
@[simp] theorem asgK_s {gt : GF} : asgK gt (some (x, S)) σ = (gt (.one x) σ S).map fun q => (.nx, q.1, q.2) := rfl
@[simp] theorem cFor_ap {fi : IF} {gt : GF} {cl : List Nat} : cFor fi gt f cl σ S = forK (fi σ S) gt f cl σ := rfl
@[simp] theorem forK_s {gt : GF} {cl : List Nat} {its : List Itm} {gs : Gs} : forK (some (its, gs, S)) gt f cl σ = loopF gt f cl gs its (forget cl σ) S := rfl
@[simp] theorem cComp_ap {fi : IF} {gt : GF} {vs : List Nat} : cComp fi gt c fa vs σ S = compK (fi σ S) gt c fa vs σ := rfl
@[simp] theorem compK_s {gt : GF} {vs : List Nat} {its : List Itm} {gs : Gs} : compK (some (its, gs, S)) gt c fa vs σ = compK2 (compL gt c fa (forget vs σ) gs its S) := rfl
@[simp] theorem iE_ap : iE fa σ S = iEK (fa σ S) := rfl
@[simp] theorem iEK_s : iEK (some (x, S)) = (seqG x S).map fun q => (q.2.1.map .one, q.2.2, S) := rfl
@[simp] theorem fnM_ap {n : Nat} : fnM n f ts S = fnK (f (startT n ts) S) := rfl
@[simp] theorem fnK_rt : fnK (some (.rt t, σ, S)) = some (t, S) := rfl
@[simp] theorem fnK_nx : fnK (some (.nx, σ, S)) = some (.d .non, S) := rfl
@[simp] theorem cYes_ap : cYes σ S = some (true, S) := rfl
end
theorem le_size {n : Nat} (h : n ≤ 100000) : n ≤ sizeLine := Nat.le_trans h (by decide)
section
variable {S : Cs} {σ : Sg} {ts : List T} {ds : List D}
theorem mapS_d (n : Nat) : ∀ (ds : List D) (S : Cs), mapS (toD n) id (ds.map .d) S = some (ds, S)
  | [], S => rfl
  | d :: ds, S => by
    show ((toD n (.d d) S).bind fun p => (mapS (toD n) id (ds.map .d) p.2).map fun q => (p.1 :: q.1, q.2)) = _
    have e : toD n (.d d) S = some (d, S) := by cases n <;> rfl
    rw [e]
    show (mapS (toD n) id (ds.map .d) S).map _ = _
    rw [mapS_d n ds S]
    rfl
theorem toDs_d (ds : List D) (S : Cs) : toDs (ds.map .d) S = some (ds, S) := mapS_d dep ds S
@[simp] theorem toDs_nil : toDs [] S = some ([], S) := rfl
def consD (d : D) (o : Option (List D × Cs)) : Option (List D × Cs) := o.map fun q => (d :: q.1, q.2)
@[simp] theorem consD_s {d : D} : consD d (some (ds, S)) = some (d :: ds, S) := rfl
@[simp] theorem toDs_d1 {d : D} : toDs (.d d :: ts) S = consD d (toDs ts S) := rfl
@[simp] theorem toD_d {n : Nat} {d : D} : toD n (.d d) S = some (d, S) := by cases n <;> rfl
@[simp] theorem tupK_s (h : ts.length ≤ 1000) : tupK (some (ts, S)) = (toDs ts S).map fun q => (.d (.tup q.1), q.2) := by
  unfold tupK
  show (if ts.length ≤ sizeLine then _ else _) = _
  rw [if_pos (le_size (by omega))]
@[simp] theorem lstK_s (h : ts.length ≤ 1000) : lstK (some (ts, S)) = some (.own S.length, S ++ [.lst ts]) := by
  unfold lstK
  show (if ts.length ≤ sizeLine then _ else _) = _
  rw [if_pos (le_size (by omega))]
theorem compK2_s (h : ts.length ≤ 100000) : compK2 (some (ts, S)) = some (.own S.length, S ++ [.lst ts]) := by
  unfold compK2
  show (if ts.length ≤ sizeLine then _ else _) = _
  rw [if_pos (le_size h)]
@[simp] theorem startT_nil {n : Nat} : startT n [] = List.replicate n none := by simp [startT]
@[simp] theorem startT_cons {n : Nat} {t : T} : startT (n + 1) (t :: ts) = some t :: startT n ts := by
  simp [startT]
theorem seqOf_own {p : Nat} (h : S[p]? = some (.lst ts)) : seqOf (.own p) S = some (false, ts) := by
  unfold seqOf deref; simp [h]
@[simp] theorem seqOf_lst : seqOf (.d (.lst ds)) S = some (false, ds.map .d) := rfl
@[simp] theorem seqOf_tup : seqOf (.d (.tup ds)) S = some (true, ds.map .d) := rfl
@[simp] theorem seqOf_scr {ns : List Int} : seqOf (.d (.scr ns)) S = some (false, ns.map fun i => .d (.int i)) := rfl
@[simp] theorem seqG_lst : seqG (.d (.lst ds)) S = some (false, ds.map .d, []) := rfl
@[simp] theorem seqG_tup : seqG (.d (.tup ds)) S = some (true, ds.map .d, []) := rfl
theorem seqG_own {p : Nat} (h : S[p]? = some (.lst ts)) : seqG (.own p) S = some (false, ts, [(p, ts)]) := by
  unfold seqG deref; simp [h]
theorem ownOf_own {p : Nat} (h : S[p]? = some (.lst ts)) : ownOf (.own p) S = some (p, ts) := by
  unfold ownOf; simp [h]
theorem isLst_own {p : Nat} (h : S[p]? = some (.lst ts)) : isLst (.own p) S = true := by
  unfold isLst; rw [seqOf_own h]
@[simp] theorem asI_int {i : Int} : asI (.d (.int i)) = some i := rfl
theorem atI_nat {α : Type} (xs : List α) (i : Nat) : atI xs (i : Int) = xs[i]? := by
  unfold atI ixN
  rw [if_pos (Int.natCast_nonneg i)]
  by_cases h : (i : Int) < (xs.length : Int)
  · rw [if_pos h]; simp
  · rw [if_neg h]
    have : xs.length ≤ i := by omega
    simp [List.getElem?_eq_none this]
@[simp] theorem atI_0 {α : Type} (xs : List α) : atI xs 0 = xs[0]? := atI_nat xs 0
@[simp] theorem atI_1 {α : Type} (xs : List α) : atI xs 1 = xs[1]? := atI_nat xs 1
@[simp] theorem atI_2 {α : Type} (xs : List α) : atI xs 2 = xs[2]? := atI_nat xs 2
@[simp] theorem atI_3 {α : Type} (xs : List α) : atI xs 3 = xs[3]? := atI_nat xs 3
@[simp] theorem atI_4 {α : Type} (xs : List α) : atI xs 4 = xs[4]? := atI_nat xs 4
theorem atI_ge {α : Type} (xs : List α) (i : Int) (h : 0 ≤ i) : atI xs i = xs[i.toNat]? := by
  have := atI_nat xs i.toNat
  rwa [Int.toNat_of_nonneg h] at this
theorem ixN_ge {n : Nat} {i : Int} (h : 0 ≤ i) (h2 : i < n) : ixN n i = some i.toNat := by
  unfold ixN; rw [if_pos h, if_pos h2]
/-- an item, by what the sequence holds -/
theorem oIx_own {p : Nat} {i : Int} (h : S[p]? = some (.lst ts)) : oIx (.own p) (ti i) S = (atI ts i).map fun t => (t, S) := by
  unfold oIx; simp [seqOf_own h]
@[simp] theorem oIx_lst {i : Int} : oIx (.d (.lst ds)) (ti i) S = (atI (ds.map T.d) i).map fun t => (t, S) := rfl
@[simp] theorem oIx_tup {i : Int} : oIx (.d (.tup ds)) (ti i) S = (atI (ds.map T.d) i).map fun t => (t, S) := rfl
@[simp] theorem oIx_scr {i : Int} {ns : List Int} : oIx (.d (.scr ns)) (ti i) S = (atI (ns.map ti) i).map fun t => (t, S) := rfl
/-! ### ints -/
@[simp] theorem oAdd_int {i j : Int} : oOr oAddI (oOr oCat (oOr oCatT oCatS)) (ti i) (ti j) S = some (ti (i + j), S) := rfl
@[simp] theorem oI0_int {g : Int → Int → D} {i j : Int} : oI0 g (ti i) (ti j) S = some (.d (g i j), S) := rfl
theorem oI_int {C : Int → Int → Prop} [∀ i j, Decidable (C i j)] {g : Int → Int → D} {i j : Int} (h : C i j) : oI C g (ti i) (ti j) S = some (.d (g i j), S) := by
  unfold oI; simp [h]
theorem oMul_int {i j : Int} (h : CMul i j) : oOr oMulI oRep (ti i) (ti j) S = some (ti (i * j), S) := by
  have e : oMulI (ti i) (ti j) S = some (ti (i * j), S) := oI_int h
  unfold oOr
  rw [e]
theorem CDivW_of {i j : Int} (h : 0 < j) (h2 : j < 2 ^ 64) : CDivW i j := wide_div h (b := 64) (by omega) (by decide) (by decide)
theorem oDiv_int {i j : Int} (h : 0 < j) (h2 : j < 2 ^ 64) : oDiv (ti i) (ti j) S = some (ti (i / j), S) := oI_int (CDivW_of h h2)
theorem oMod_int {i j : Int} (h : 0 < j) : oMod (ti i) (ti j) S = some (ti (i % j), S) := oI_int h
theorem oPow_int {i j : Int} (h : CPow i j) : oPow (ti i) (ti j) S = some (ti (i ^ j.toNat), S) := oI_int h
@[simp] theorem pow18 : oPow (ti 10) (ti 18) S = some (ti 1000000000000000000, S) := oPow_int (by decide)
@[simp] theorem pow9 : oPow (ti 10) (ti 9) S = some (ti 1000000000, S) := oPow_int (by decide)
@[simp] theorem pow6 : oPow (ti 10) (ti 6) S = some (ti 1000000, S) := oPow_int (by decide)
@[simp] theorem pow8 : oPow (ti 10) (ti 8) S = some (ti 100000000, S) := oPow_int (by decide)
@[simp] theorem pow11 : oPow (ti 10) (ti 11) S = some (ti 100000000000, S) := oPow_int (by decide)
@[simp] theorem pow12 : oPow (ti 10) (ti 12) S = some (ti 1000000000000, S) := oPow_int (by decide)
@[simp] theorem bInt_int {i : Int} : bInt [ti i] S = some (ti i, S) := rfl
@[simp] theorem bAbs_int {i : Int} : bAbs [ti i] S = some (ti (if i < 0 then -i else i), S) := rfl
@[simp] theorem bLen_lst : bLen [.d (.lst ds)] S = some (ti ds.length, S) := by simp [bLen, b1]
@[simp] theorem bLen_tup : bLen [.d (.tup ds)] S = some (ti ds.length, S) := by simp [bLen, b1]
@[simp] theorem bLen_scr {ns : List Int} : bLen [.d (.scr ns)] S = some (ti ns.length, S) := by simp [bLen, b1]
theorem bLen_own {p : Nat} (h : S[p]? = some (.lst ts)) : bLen [.own p] S = some (ti ts.length, S) := by simp [bLen, b1, seqOf_own h]
end
/-! ### draws -/
abbrev srcC (s : Int × Int) : Cell := .lst [ti s.1, ti s.2]
def dMix (c k : Int) : Int :=
  let a := (c + 7919 * k + 13) % 2147483647
  let b := (a * (a + 48271)) % 2147483629
  (b * (b + 69621) + 31 * k) % 2147483647
def dR (s : Int × Int) (n : Int) : Int := if 1000000000000000000 ≤ s.1 then s.1 % n else (dMix s.1 (s.2 + 1) / 9) % n
def dS (s : Int × Int) (n : Int) : Int × Int := if 1000000000000000000 ≤ s.1 then (s.1 / n, s.2) else (s.1, s.2 + 1)
theorem dR_nn (s : Int × Int) {n : Int} (h : 0 < n) : 0 ≤ dR s n := by
  unfold dR; split <;> exact Int.emod_nonneg _ (by omega)
theorem dR_lt (s : Int × Int) {n : Int} (h : 0 < n) : dR s n < n := by
  unfold dR; split <;> exact Int.emod_lt_of_pos _ h
noncomputable def m_draw : MF := fnM 4 (cSeq (cSet 2 (cBin oIx (cV 0) (cK (.int 0))))
      (cSeq (cIfS (cB (cBin oGe (cV 2) (cBin oPow (cK (.int 10)) (cK (.int 18))))) (cSeq (cSub (cV 0) (cK (.int 0)) (cBin oDiv (cV 2) (cV 1)))
      (cRet (cBin oMod (cCB bInt (aCons (cV 2) (aNil))) (cV 1)))) (cNx))
      (cSeq (cSub (cV 0) (cK (.int 1)) (cBin oAdd (cBin oIx (cV 0) (cK (.int 1))) (cK (.int 1))))
      (cSeq (cSet 3 (cBin oMod (cCB bInt (aCons (cBin oAdd (cBin oAdd (cV 2) (cBin oMul (cK (.int 7919)) (cBin oIx (cV 0) (cK (.int 1))))) (cK (.int 13))) (aNil))) (cK (.int 2147483647))))
      (cSeq (cSet 3 (cBin oMod (cCB bInt (aCons (cBin oMul (cV 3) (cBin oAdd (cV 3) (cK (.int 48271)))) (aNil))) (cK (.int 2147483629))))
      (cSeq (cSet 3 (cBin oMod (cCB bInt (aCons (cBin oAdd (cBin oMul (cV 3) (cBin oAdd (cV 3) (cK (.int 69621)))) (cBin oMul (cK (.int 31)) (cBin oIx (cV 0) (cK (.int 1))))) (aNil))) (cK (.int 2147483647))))
      (cRet (cBin oMod (cCB bInt (aCons (cBin oDiv (cV 3) (cK (.int 9))) (aNil))) (cV 1)))))))))
theorem cm_l {i j : Int} (h : 0 ≤ i) (h2 : i < 2147483647) : CMul i j := .inl ⟨by omega, by omega⟩
theorem m_draw_eq (p : Nat) (n : Int) (S : Cs) (s : Int × Int) (h : S[p]? = some (srcC s)) (h0 : 0 < n) (h1 : n < 2 ^ 64) :
    m_draw [.own p, ti n] S = some (ti (dR s n), S.set p (srcC (dS s n))) := by
  have hp : p < S.length := (List.getElem?_eq_some_iff.mp h).1
  have hs : ∀ c : Cell, (S.set p c)[p]? = some c := fun c => by rw [List.getElem?_set_self hp]
  unfold m_draw
  by_cases hc : 1000000000000000000 ≤ s.1
  · have k0 : ∀ v σ, subK3 v (.own p) (some (ti 0, S)) σ = some (.nx, σ, S.set p (.lst [v, ti s.2])) := fun v σ => subK3_s (i := 0) (j := 0) h (by rfl)
    simp [oIx_own h, oDiv_int h0 h1, oMod_int h0, hc, k0, dR, dS]
  · have k1 : ∀ v σ, subK3 v (.own p) (some (ti 1, S)) σ = some (.nx, σ, S.set p (.lst [ti s.1, v])) := fun v σ => subK3_s (i := 1) (j := 1) h (by rfl)
    have e1 : ∀ i : Int, (0 : Int) ≤ i % 2147483647 := fun i => Int.emod_nonneg _ (by decide)
    have e2 : ∀ i : Int, i % 2147483647 < 2147483647 := fun i => Int.emod_lt_of_pos _ (by decide)
    have e3 : ∀ i : Int, (0 : Int) ≤ i % 2147483629 := fun i => Int.emod_nonneg _ (by decide)
    have e4 : ∀ i : Int, i % 2147483629 < 2147483647 := fun i => by have := Int.emod_lt_of_pos i (b := 2147483629) (by decide); omega
    simp [oIx_own h, oIx_own (hs _), oDiv_int, oMod_int, h0, oMul_int (cm_l (i := 7919) (by decide) (by decide)), oMul_int (cm_l (i := 31) (by decide) (by decide)), oMul_int (cm_l (e1 _) (e2 _)), oMul_int (cm_l (e3 _) (e4 _)), hc, k1, dR, dS, dMix]
end FL
/-! FL: calls, equality, loops, comprehensions, as they are reckoned. -/
namespace FL
open PySem PySem.Spec PyProof.Rows L2
section
variable {S S1 S2 : Cs} {σ : Sg} {ts : List T} {ds : List D} {m : MF} {n : Nat} {fs : AF} {f : EF} {c : BF} {t : T} {d : D}
@[simp] theorem forget_nil : forget [] σ = σ := rfl
@[simp] theorem forget_cons {i : Nat} {is : List Nat} : forget (i :: is) σ = forget is (σ.set i none) := rfl
@[simp] theorem gOk_nil : gOk [] S := trivial
/-! ### calls -/
def callSK (m : MF) (n : Nat) (o : Option (List T × Cs)) : Option (T × Cs) := o.bind fun p => if (p.1 ++ []).length = n then m (p.1 ++ []) p.2 else none
@[simp] theorem cCallS_ap : cCallS m [] n fs σ S = callSK m n (fs σ S) := rfl
@[simp] theorem callSK_s (h : ts.length = n) : callSK m n (some (ts, S)) = m ts S := by
  unfold callSK; simp [h]
def callP3 (o : Option (T × Cs)) (S : Cs) : Option (T × Cs) := o.bind fun u => (toD dep u.1 u.2).map fun w => (.d w.1, S)
def callP2 (o : Option (List D × Cs)) (m : MF) : Option (T × Cs) := o.bind fun q => callP3 (m (q.1.map .d) []) q.2
def callPK (m : MF) (n : Nat) (o : Option (List T × Cs)) : Option (T × Cs) := o.bind fun p => if (p.1 ++ []).length = n then callP2 (toDs (p.1 ++ []) p.2) m else none
@[simp] theorem cCallP_ap : cCallP m [] n fs σ S = callPK m n (fs σ S) := rfl
@[simp] theorem callPK_s (h : ts.length = n) : callPK m n (some (ts, S)) = callP2 (toDs ts S) m := by
  unfold callPK; simp [h]
@[simp] theorem callP2_s : callP2 (some (ds, S)) m = callP3 (m (ds.map .d) []) S := rfl
@[simp] theorem callP3_d : callP3 (some (.d d, S1)) S = some (.d d, S) := by
  unfold callP3; simp
theorem callP3_o {j : Nat} (h : toD dep (.own j) S1 = some (d, S2)) : callP3 (some (.own j, S1)) S = some (.d d, S) := by
  unfold callP3; simp [h]
def callN3 (o : Option (T × Cs)) (S : Cs) : Option (T × Cs) := o.bind fun u => match u.1 with
    | .d d => some (.d d, S)
    | .own j => (match u.2[j]? with
      | some (.lst ts) => (toDs ts u.2).bind fun w => if isFrz w.2[j]? = true then none else some (.own S.length, S ++ [.lst (w.1.map .d)])
      | _ => none)
def callN2 (o : Option (List D × Cs)) (m : MF) : Option (T × Cs) := o.bind fun q => callN3 (m (q.1.map .d) []) q.2
def callNK (m : MF) (n : Nat) (o : Option (List T × Cs)) : Option (T × Cs) := o.bind fun p => if (p.1 ++ []).length = n then callN2 (toDs (p.1 ++ []) p.2) m else none
@[simp] theorem cCallN_ap : cCallN m [] n fs σ S = callNK m n (fs σ S) := rfl
@[simp] theorem callNK_s (h : ts.length = n) : callNK m n (some (ts, S)) = callN2 (toDs ts S) m := by
  unfold callNK; simp [h]
@[simp] theorem callN2_s : callN2 (some (ds, S)) m = callN3 (m (ds.map .d) []) S := rfl
@[simp] theorem callN3_d : callN3 (some (.d d, S1)) S = some (.d d, S) := rfl
theorem callN3_o {j : Nat} (h : S1[j]? = some (.lst (ds.map .d))) : callN3 (some (.own j, S1)) S = some (.own S.length, S ++ [.lst (ds.map .d)]) := by
  unfold callN3
  simp [h, toDs_d, isFrz]
theorem callN3_src {s : Int × Int} : callN3 (some (.own 0, [srcC s])) S = some (.own S.length, S ++ [srcC s]) := rfl
/-- every part is below the number of cells -/
def WfS (S : Cs) : Prop := S.all (cellBelow S.length) = true
def callTK (m : MF) (n : Nat) (o : Option (List T × Cs)) : Option (T × Cs) := o.bind fun p => if (p.1 ++ []).length = n then
  (m (p.1 ++ []) p.2).bind fun u => if below p.2.length u.1 = true then (if (u.2.take p.2.length).all (cellBelow p.2.length) = true then some (u.1, u.2.take p.2.length) else none)
    else (toD dep u.1 u.2).bind fun w => if (w.2.take p.2.length).all (cellBelow p.2.length) = true then some (.d w.1, w.2.take p.2.length) else none
  else none
@[simp] theorem cCallT_ap : cCallT m [] n fs σ S = callTK m n (fs σ S) := rfl
theorem wf_take {S' : Cs} {k : Nat} (hl : S'.length = k) (w : WfS S') : S'.all (cellBelow k) = true := by
  subst hl; exact w
/-- the answer is data, the cells that were there are S', new ones G -/
theorem callTK_s {S' G : Cs} (hn : ts.length = n) (h : m ts S = some (.d d, S' ++ G)) (hl : S'.length = S.length) (w : WfS S') : callTK m n (some (ts, S)) = some (.d d, S') := by
  unfold callTK
  have e : (S' ++ G).take S.length = S' := by rw [← hl, List.take_left]
  simp only [Option.bind_some, List.append_nil, hn, if_true, h, below, e, wf_take hl w]
/-- the answer is a new list, handed back as data -/
theorem callTK_l {S' G : Cs} {j : Nat} (hn : ts.length = n) (h : m ts S = some (.own j, S1)) (hj : S.length ≤ j) (h2 : toD dep (.own j) S1 = some (d, S' ++ G)) (hl : S'.length = S.length) (w : WfS S') : callTK m n (some (ts, S)) = some (.d d, S') := by
  unfold callTK
  have e : (S' ++ G).take S.length = S' := by rw [← hl, List.take_left]
  have hb : ¬ j < S.length := by omega
  simp only [Option.bind_some, List.append_nil, hn, if_true, h, below, hb, h2, e, wf_take hl w, decide_false, if_false, Bool.false_eq_true]
def callUK (m : MF) (n : Nat) (o : Option (List T × Cs)) : Option (T × Cs) := o.bind fun p => if (p.1 ++ []).length = n then
  (m (p.1 ++ []) p.2).bind fun u => match u.1 with
    | .d d => if (u.2.take p.2.length).all (cellBelow p.2.length) = true then some (.d d, u.2.take p.2.length) else none
    | .own j => if j < p.2.length then none else (match u.2[j]? with
      | some (.lst ts) => (toDs ts u.2).bind fun w => if isFrz w.2[j]? = true then none else
          if (w.2.take p.2.length).all (cellBelow p.2.length) = true then some (.own p.2.length, w.2.take p.2.length ++ [.lst (w.1.map .d)]) else none
      | _ => none)
  else none
@[simp] theorem cCallU_ap : cCallU m [] n fs σ S = callUK m n (fs σ S) := rfl
theorem callUK_s {S' G : Cs} {j : Nat} (hn : ts.length = n) (h : m ts S = some (.own j, S' ++ G)) (hj : S.length ≤ j) (h2 : (S' ++ G)[j]? = some (.lst (ds.map .d))) (hl : S'.length = S.length) (w : WfS S') :
    callUK m n (some (ts, S)) = some (.own S.length, S' ++ [.lst (ds.map .d)]) := by
  unfold callUK
  have e : (S' ++ G).take S.length = S' := by rw [← hl, List.take_left]
  have hb : ¬ j < S.length := by omega
  simp only [Option.bind_some, List.append_nil, hn, if_true, h, hb, if_false, h2, toDs_d, isFrz, e, wf_take hl w, Bool.false_eq_true]
/-! ### trims -/
@[simp] theorem cTrim_ap : cTrim f σ S = trimT S.length (f σ S) := rfl
@[simp] theorem cTrimB_ap : cTrimB c σ S = trimB S.length (c σ S) := rfl
theorem trimT_s {S' G : Cs} {k : Nat} (hl : S'.length = k) (w : WfS S') : trimT k (some (.d d, S' ++ G)) = some (.d d, S') := by
  subst hl
  unfold trimT
  simp only [Option.bind_some, below, if_true, List.take_left, wf_take rfl w]
theorem trimT_0 {S' : Cs} {k : Nat} (hl : S'.length = k) (w : WfS S') : trimT k (some (.d d, S')) = some (.d d, S') := by
  have := trimT_s (G := []) (d := d) hl w
  rwa [List.append_nil] at this
theorem trimB_s {S' G : Cs} {k : Nat} {b : Bool} (hl : S'.length = k) (w : WfS S') : trimB k (some (b, S' ++ G)) = some (b, S') := by
  subst hl
  unfold trimB
  simp only [Option.bind_some, if_true, List.take_left, wf_take rfl w]
theorem trimB_0 {S' : Cs} {k : Nat} {b : Bool} (hl : S'.length = k) (w : WfS S') : trimB k (some (b, S')) = some (b, S') := by
  have := trimB_s (G := []) (b := b) hl w
  rwa [List.append_nil] at this
theorem below_mono {n k : Nat} (h : n ≤ k) {t : T} (b : below n t = true) : below k t = true := by
  cases t with
  | d d => rfl
  | own p => exact decide_eq_true (by have := of_decide_eq_true b; omega)
theorem cellBelow_mono {n k : Nat} (h : n ≤ k) {c : Cell} (b : cellBelow n c = true) : cellBelow k c = true := by
  cases c with
  | lst ts => exact List.all_eq_true.mpr fun t ht => below_mono h (List.all_eq_true.mp b t ht)
  | ins c fs => exact List.all_eq_true.mpr fun t ht => below_mono h (List.all_eq_true.mp b t ht)
  | frz d => rfl
theorem all_d (k : Nat) : ∀ (ds : List D), (ds.map T.d).all (below k) = true
  | [] => rfl
  | d :: ds => by rw [List.map_cons, List.all_cons, all_d k ds]; rfl
theorem all_ti (k : Nat) : ∀ (ds : List Int), (ds.map ti).all (below k) = true
  | [] => rfl
  | d :: ds => by rw [List.map_cons, List.all_cons, all_ti k ds]; rfl
theorem wf_nil : WfS [] := rfl
theorem wf_app {c : Cell} (w : WfS S) (h : cellBelow (S.length + 1) c = true) : WfS (S ++ [c]) := by
  unfold WfS
  rw [List.all_append, List.length_append, List.length_singleton, Bool.and_eq_true]
  exact ⟨List.all_eq_true.mpr fun x hx => cellBelow_mono (Nat.le_succ _) (List.all_eq_true.mp w x hx), by simp [h]⟩
theorem wf_set {c : Cell} {p : Nat} (w : WfS S) (h : cellBelow S.length c = true) : WfS (S.set p c) := by
  unfold WfS
  rw [List.length_set]
  exact List.all_eq_true.mpr fun x hx => (List.mem_or_eq_of_mem_set hx).elim (fun z => List.all_eq_true.mp w x z) fun z => by rw [z]; exact h
theorem cb_src {k : Nat} {s : Int × Int} : cellBelow k (srcC s) = true := rfl
theorem cb_ds {k : Nat} : cellBelow k (.lst (ds.map .d)) = true := all_d k ds
theorem cb_ti {k : Nat} {ns : List Int} : cellBelow k (.lst (ns.map ti)) = true := all_ti k ns
/-! ### equality -/
theorem depthAll_int : ∀ ns : List Int, PyData.depthAll (ns.map PyData.int) = 0
  | [] => rfl
  | n :: ns => by
    show max (PyData.depth (.int n)) (PyData.depthAll (ns.map PyData.int)) = 0
    rw [depthAll_int ns]; rfl
theorem canLay_int : ∀ ns : List Int, PyData.canLayAll0 (ns.map PyData.int) = true
  | [] => rfl
  | n :: ns => by
    show (PyData.canLay0 (.int n) && PyData.canLayAll0 (ns.map PyData.int)) = true
    rw [canLay_int ns]; rfl
theorem shaped_ints (ns : List Int) : SeqAt.shaped (.list (ns.map PyData.int)) = true := by
  unfold SeqAt.shaped
  have h1 : PyData.canLay0 (.list (ns.map PyData.int)) = true := canLay_int ns
  have h2 : PyData.depth (.list (ns.map PyData.int)) = 1 := by
    show PyData.depthAll (ns.map PyData.int) + 1 = 1
    rw [depthAll_int]
  rw [h1, h2]; decide
theorem eqvAll_int : ∀ ns ms : List Int, PyData.eqvAll (ns.map PyData.int) (ms.map PyData.int) = decide (ns = ms)
  | [], [] => by simp [PyData.eqvAll]
  | [], m :: ms => by simp [PyData.eqvAll]
  | n :: ns, [] => by simp [PyData.eqvAll]
  | n :: ns, m :: ms => by
    simp only [List.map_cons, PyData.eqvAll, PyData.eqv, eqvAll_int ns ms]
    by_cases h1 : n = m <;> by_cases h2 : ns = ms <;> simp [h1, h2]
theorem pyDs_int : ∀ ns : List Int, pyDs (ns.map D.int) = some (ns.map PyData.int)
  | [] => rfl
  | n :: ns => by
    show ((pyD (.int n)).bind fun p => (pyDs (ns.map D.int)).map fun q => p :: q) = _
    rw [pyDs_int ns]; rfl
theorem mapO_pyInt (k : Nat) (S : Cs) : ∀ ns : List Int, mapO (pyT k S) (ns.map ti) = some (ns.map PyData.int)
  | [] => rfl
  | n :: ns => by
    show ((pyT k S (ti n)).bind fun p => (mapO (pyT k S) (ns.map ti)).map fun q => p :: q) = _
    rw [mapO_pyInt k S ns]
    cases k <;> rfl
/-- what a list of ints is as data -/
theorem pyT_own {p : Nat} {ns : List Int} (h : S[p]? = some (.lst (ns.map ti))) : pyT dep S (.own p) = some (.list (ns.map PyData.int)) := by
  show (match S[p]? with
    | some (.frz d) => pyD d
    | some (.lst ts) => (mapO (pyT 3 S) ts).map PyData.list
    | _ => none) = _
  rw [h]
  show (mapO (pyT 3 S) (ns.map ti)).map PyData.list = _
  rw [mapO_pyInt]
  rfl
theorem pyT_lst {ns : List Int} : pyT dep S (.d (.lst (ns.map D.int))) = some (.list (ns.map PyData.int)) := by
  show (pyDs (ns.map D.int)).map PyData.list = _
  rw [pyDs_int]; rfl
theorem eqT_ints {x y : T} {ns ms : List Int} (hx : pyT dep S x = some (.list (ns.map PyData.int))) (hy : pyT dep S y = some (.list (ms.map PyData.int))) : eqT x y S = some (decide (ns = ms)) := by
  unfold eqT
  rw [hx, hy]
  simp only [shaped_ints, and_self, if_true]
  show some (PyData.eqvAll _ _) = _
  rw [eqvAll_int]
theorem sh_int (i : Int) : SeqAt.shaped (.int i) = true := by
  unfold SeqAt.shaped; simp [PyData.canLay0, PyData.depth]
theorem sh_bool (i : Bool) : SeqAt.shaped (.bool i) = true := by
  unfold SeqAt.shaped; simp [PyData.canLay0, PyData.depth]
@[simp] theorem eqT_int {i j : Int} : eqT (ti i) (ti j) S = some (decide (i = j)) := by
  unfold eqT
  show (if SeqAt.shaped (.int i) = true ∧ SeqAt.shaped (.int j) = true then some (i == j) else none) = _
  rw [sh_int, sh_int, if_pos ⟨rfl, rfl⟩, Bool.beq_eq_decide_eq]
@[simp] theorem eqT_bool {i j : Bool} : eqT (tb i) (tb j) S = some (decide (i = j)) := by
  unfold eqT
  show (if SeqAt.shaped (.bool i) = true ∧ SeqAt.shaped (.bool j) = true then some (i == j) else none) = _
  rw [sh_bool, sh_bool, if_pos ⟨rfl, rfl⟩, Bool.beq_eq_decide_eq]
theorem oEq_of {x y : T} {b : Bool} (h : eqT x y S = some b) : oEq x y S = some (tb b, S) := by
  unfold oEq; rw [h]; rfl
theorem oNe_of {x y : T} {b : Bool} (h : eqT x y S = some b) : oNe x y S = some (tb (!b), S) := by
  unfold oNe; rw [h]; rfl
@[simp] theorem oEq_int {i j : Int} : oEq (ti i) (ti j) S = some (tb (decide (i = j)), S) := oEq_of eqT_int
@[simp] theorem oNe_int {i j : Int} : oNe (ti i) (ti j) S = some (tb (!decide (i = j)), S) := oNe_of eqT_int
@[simp] theorem oEq_bool {i j : Bool} : oEq (tb i) (tb j) S = some (tb (decide (i = j)), S) := oEq_of eqT_bool
@[simp] theorem oNe_bool {i j : Bool} : oNe (tb i) (tb j) S = some (tb (!decide (i = j)), S) := oNe_of eqT_bool
@[simp] theorem oIs_non {x : T} : oIs x (.d .non) S = some (tb (isNone x), S) := rfl
@[simp] theorem oIsN_non {x : T} : oIsN x (.d .non) S = some (tb (!isNone x), S) := rfl
@[simp] theorem isNone_int {i : Int} : isNone (ti i) = false := rfl
@[simp] theorem isNone_non : isNone (.d .non) = true := rfl
@[simp] theorem isNone_own {p : Nat} : isNone (.own p) = false := rfl
@[simp] theorem bIsi_ii {i : Int} : bIsi [ti i, .d (.ty "int")] S = some (tb true, S) := rfl
@[simp] theorem bIsi_ib {i : Int} : bIsi [ti i, .d (.ty "bool")] S = some (tb false, S) := rfl
@[simp] theorem gN_one {i : Nat} : gN i (.one t) σ S = some (σ.set i (some t), S) := rfl
end
/-! ### loops -/
section
variable {α : Type} {g : GF} {body : SF} {cl : List Nat} {gs : Gs} {S : Cs} {σ : Sg}
theorem loopF_nil (h : gOk gs S) : loopF g body cl gs [] σ S = some (.nx, σ, S) := by
  unfold loopF; rw [if_pos h]
theorem loopF_cons {it : Itm} {its : List Itm} (h : gOk gs S) : loopF g body cl gs (it :: its) σ S = ((g it σ S).bind fun q => (body q.1 q.2).bind fun o => match o.1 with
    | .nx => loopF g body cl gs its (forget cl o.2.1) o.2.2
    | .ct => loopF g body cl gs its (forget cl o.2.1) o.2.2
    | .bk => some (.nx, forget cl o.2.1, o.2.2)
    | .rt t => some (.rt t, o.2.1, o.2.2)) := by
  conv => lhs; unfold loopF
  rw [if_pos h] <;> rfl
/-- P: what holds when the items done have been walked -/
theorem loop_inv (enc : α → Itm) (P : List α → Sg → Cs → Prop) (hg : ∀ done σ S, P done σ S → gOk gs S) (xs : List α)
    (hs : ∀ done x rest σ S, xs = done ++ x :: rest → P done σ S → ∃ σ1 S1 σ2 S2, g (enc x) σ S = some (σ1, S1) ∧ body σ1 S1 = some (.nx, σ2, S2) ∧ P (done ++ [x]) (forget cl σ2) S2) (h0 : P [] σ S) :
    ∃ σ' S', loopF g body cl gs (xs.map enc) σ S = some (.nx, σ', S') ∧ P xs σ' S' := by
  have key : ∀ (rest done : List α) (σ : Sg) (S : Cs), xs = done ++ rest → P done σ S → ∃ σ' S', loopF g body cl gs (rest.map enc) σ S = some (.nx, σ', S') ∧ P xs σ' S' := by
    intro rest
    induction rest with
    | nil =>
      intro done σ S e p
      rw [List.append_nil] at e
      subst e
      exact ⟨σ, S, loopF_nil (hg _ _ _ p), p⟩
    | cons x rest ih =>
      intro done σ S e p
      obtain ⟨σ1, S1, σ2, S2, h1, h2, h3⟩ := hs done x rest σ S e p
      obtain ⟨σ', S', h4, h5⟩ := ih (done ++ [x]) _ _ (by rw [e, List.append_assoc]; rfl) h3
      refine ⟨σ', S', ?_, h5⟩
      rw [List.map_cons, loopF_cons (hg _ _ _ p), h1]
      show (body σ1 S1).bind _ = _
      rw [h2]
      exact h4
  exact key xs [] σ S rfl h0
/-- .. that may be left by a return -/
theorem loop_ret (enc : α → Itm) (P : List α → Sg → Cs → Prop) (R : T → Cs → Prop) (hg : ∀ done σ S, P done σ S → gOk gs S) (xs : List α)
    (hs : ∀ done x rest σ S, xs = done ++ x :: rest → P done σ S → ∃ σ1 S1, g (enc x) σ S = some (σ1, S1) ∧ ((∃ σ2 S2, body σ1 S1 = some (.nx, σ2, S2) ∧ P (done ++ [x]) (forget cl σ2) S2) ∨ ∃ t σ2 S2, body σ1 S1 = some (.rt t, σ2, S2) ∧ R t S2)) (h0 : P [] σ S) :
    (∃ σ' S', loopF g body cl gs (xs.map enc) σ S = some (.nx, σ', S') ∧ P xs σ' S') ∨ ∃ t σ' S', loopF g body cl gs (xs.map enc) σ S = some (.rt t, σ', S') ∧ R t S' := by
  have key : ∀ (rest done : List α) (σ : Sg) (S : Cs), xs = done ++ rest → P done σ S → (∃ σ' S', loopF g body cl gs (rest.map enc) σ S = some (.nx, σ', S') ∧ P xs σ' S') ∨ ∃ t σ' S', loopF g body cl gs (rest.map enc) σ S = some (.rt t, σ', S') ∧ R t S' := by
    intro rest
    induction rest with
    | nil =>
      intro done σ S e p
      rw [List.append_nil] at e
      subst e
      exact .inl ⟨σ, S, loopF_nil (hg _ _ _ p), p⟩
    | cons x rest ih =>
      intro done σ S e p
      obtain ⟨σ1, S1, h1, h2⟩ := hs done x rest σ S e p
      rw [List.map_cons, loopF_cons (hg _ _ _ p), h1]
      show _ ∨ _
      rcases h2 with ⟨σ2, S2, h2, h3⟩ | ⟨t, σ2, S2, h2, h3⟩
      · rcases ih (done ++ [x]) _ _ (by rw [e, List.append_assoc]; rfl) h3 with ⟨σ', S', h4, h5⟩ | ⟨t, σ', S', h4, h5⟩
        · exact .inl ⟨σ', S', by rw [Option.bind_some, h2]; exact h4, h5⟩
        · exact .inr ⟨t, σ', S', by rw [Option.bind_some, h2]; exact h4, h5⟩
      · exact .inr ⟨t, σ2, S2, by rw [Option.bind_some, h2]; rfl, h3⟩
  exact key xs [] σ S rfl h0
/-- a comprehension whose parts change nothing -/
theorem compL_pure {t : BF} {f : EF} (enc : α → Itm) (p : α → Bool) (v : α → T) (hg : gOk gs S) : ∀ (xs : List α),
    (∀ x ∈ xs, ∃ σ1, g (enc x) σ S = some (σ1, S) ∧ t σ1 S = some (p x, S) ∧ (p x = true → f σ1 S = some (v x, S))) → compL g t f σ gs (xs.map enc) S = some ((xs.filter p).map v, S)
  | [], _ => by unfold compL; simp [hg]
  | x :: xs, h => by
    obtain ⟨σ1, h1, h2, h3⟩ := h x List.mem_cons_self
    have ih := compL_pure (t := t) (f := f) enc p v hg xs fun y hy => h y (List.mem_cons_of_mem _ hy)
    rw [List.map_cons]
    unfold compL
    rw [if_pos hg, h1]
    show (t σ1 S).bind _ = _
    rw [h2]
    show (if p x = true then _ else _) = _
    by_cases hp : p x = true
    · rw [if_pos hp, h3 hp]
      show (compL g t f σ gs (xs.map enc) S).map _ = _
      rw [ih, List.filter_cons_of_pos hp]
      rfl
    · rw [if_neg hp, List.filter_cons_of_neg hp]
      exact ih
theorem itR_enc (lo hi : Int) : itR lo hi = (rangeL lo hi).map fun i => .one (ti i) := rfl
theorem iRange1_s {fs : AF} {j : Int} {S' : Cs} (h : fs σ S = some ([ti j], S')) (hb : inR j) : iRange1 fs σ S = some (itR 0 j, [], S') := by
  unfold iRange1 iR
  rw [h]
  show (if inR 0 ∧ inR j then _ else _) = _
  rw [if_pos ⟨by decide, hb⟩]
theorem iRange2_s {fs : AF} {i j : Int} {S' : Cs} (h : fs σ S = some ([ti i, ti j], S')) (hi : inR i) (hb : inR j) : iRange2 fs σ S = some (itR i j, [], S') := by
  unfold iRange2 iR
  rw [h]
  show (if inR i ∧ inR j then _ else _) = _
  rw [if_pos ⟨hi, hb⟩]
theorem mem_rangeL {lo hi x : Int} (h : x ∈ rangeL lo hi) : lo ≤ x ∧ x < hi := by
  unfold rangeL at h
  obtain ⟨i, hi', rfl⟩ := List.mem_map.mp h
  have := List.mem_range.mp hi'
  omega
theorem rangeL_len (lo hi : Int) : (rangeL lo hi).length = (hi - lo).toNat := by unfold rangeL; simp
end
/-! ### sources -/
noncomputable def m_source : MF := fnM 2 (cSeq (cIfS (cB (cBin oLt (cV 1) (cCB bLen (aCons (cV 0) (aNil))))) (cRet (cLst (aCons (cCB bAbs (aCons (cBin oIx (cV 0) (cV 1)) (aNil))) (aCons (cV 1) (aNil))))) (cNx))
      (cSeq (cIfS (cB (cBin oEq (cCB bLen (aCons (cV 0) (aNil))) (cK (.int 0)))) (cRet (cLst (aCons (cBin oAdd (cBin oMul (cK (.int 1009)) (cV 1)) (cK (.int 17))) (aCons (cV 1) (aNil))))) (cNx))
      (cRet (cLst (aCons (cBin oAdd (cBin oAdd (cBin oMul (cK (.int 31)) (cCB bAbs (aCons (cBin oIx (cV 0) (cBin oMod (cCB bInt (aCons (cV 1) (aNil))) (cCB bLen (aCons (cV 0) (aNil))))) (aNil)))) (cBin oMul (cK (.int 1009)) (cV 1))) (cK (.int 17))) (aCons (cV 1) (aNil)))))))
theorem m_source_ok (ns : List Int) (k : Nat) : ∃ s, m_source [.d (.scr ns), ti (k : Int)] [] = some (.own 0, [srcC s]) := by
  by_cases h : (k : Int) < (ns.length : Int)
  · have hk : k < ns.length := by omega
    have e : atI (ns.map ti) (k : Int) = some (ti ns[k]) := by rw [atI_nat, List.getElem?_map, List.getElem?_eq_getElem hk]; rfl
    exact ⟨(if ns[k] < 0 then -ns[k] else ns[k], k), by simp [m_source, h, e]⟩
  · by_cases h0 : ns = []
    · subst h0
      have hk : ¬ (k : Int) < 0 := by omega
      exact ⟨(1009 * k + 17, k), by simp [m_source, hk, oMul_int (cm_l (i := 1009) (by decide) (by decide))]⟩
    · have hl : 0 < ns.length := List.length_pos_iff.mpr h0
      have hl' : (0 : Int) < (ns.length : Int) := by omega
      have hm : k % ns.length < ns.length := Nat.mod_lt _ hl
      have e : atI (ns.map ti) ((k : Int) % (ns.length : Int)) = some (ti ns[k % ns.length]) := by
        rw [← Int.natCast_emod, atI_nat, List.getElem?_map, List.getElem?_eq_getElem hm]; rfl
      have hz : ¬ (ns.length : Int) = 0 := by omega
      exact ⟨(31 * (if ns[k % ns.length] < 0 then -ns[k % ns.length] else ns[k % ns.length]) + 1009 * k + 17, k), by
        simp [m_source, h, h0, e, oMod_int hl', oMul_int (cm_l (i := 1009) (by decide) (by decide)), oMul_int (cm_l (i := 31) (by decide) (by decide))]⟩
end FL
namespace FL
open PySem PySem.Spec PyProof.Rows L2
/-- the first statement is done, the others are to be shown -/
theorem run_nx {f g : SF} {σ σ' : Sg} {S S' : Cs} {t : T} (h : f σ S = some (.nx, σ', S')) (k : ∃ S2, fnK (g σ' S') = some (t, S2)) : ∃ S2, fnK (cSeq f g σ S) = some (t, S2) := by
  rw [cSeq_ap, h]
  exact k
end FL
namespace Lw
open PySem PySem.Spec PyProof.Rows L2 FL
noncomputable def m_rank_in : MF := fnM 5 (cSeq (cSet 3 (cBin oIx (cV 0) (cV 2)))
      (cRet (cBin oAdd (cK (.int 1)) (cTrim (cCB bLen (aCons (cComp (iE (cV 1)) (gN 4) (cB (cBin oGt (cBin oIx (cV 0) (cV 4)) (cV 3))) (cV 4) [4]) (aNil)))))))
noncomputable def m_l_source : MF := fnM 2 (cSeq (cIfS (cB (cBin oLt (cV 1) (cCB bLen (aCons (cV 0) (aNil))))) (cRet (cLst (aCons (cCB bAbs (aCons (cBin oIx (cV 0) (cV 1)) (aNil))) (aCons (cV 1) (aNil))))) (cNx))
      (cSeq (cIfS (cB (cBin oEq (cCB bLen (aCons (cV 0) (aNil))) (cK (.int 0)))) (cRet (cLst (aCons (cBin oAdd (cBin oMul (cK (.int 1009)) (cV 1)) (cK (.int 17))) (aCons (cV 1) (aNil))))) (cNx))
      (cRet (cLst (aCons (cBin oAdd (cBin oAdd (cBin oMul (cK (.int 31)) (cCB bAbs (aCons (cBin oIx (cV 0) (cBin oMod (cCB bInt (aCons (cV 1) (aNil))) (cCB bLen (aCons (cV 0) (aNil))))) (aNil)))) (cBin oMul (cK (.int 1009)) (cV 1))) (cK (.int 17))) (aCons (cV 1) (aNil)))))))
noncomputable def m_l_draw : MF := fnM 4 (cSeq (cSet 2 (cBin oIx (cV 0) (cK (.int 0))))
      (cSeq (cIfS (cB (cBin oGe (cV 2) (cBin oPow (cK (.int 10)) (cK (.int 18))))) (cSeq (cSub (cV 0) (cK (.int 0)) (cBin oDiv (cV 2) (cV 1)))
      (cRet (cBin oMod (cCB bInt (aCons (cV 2) (aNil))) (cV 1)))) (cNx))
      (cSeq (cSub (cV 0) (cK (.int 1)) (cBin oAdd (cBin oIx (cV 0) (cK (.int 1))) (cK (.int 1))))
      (cSeq (cSet 3 (cBin oMod (cCB bInt (aCons (cBin oAdd (cBin oAdd (cV 2) (cBin oMul (cK (.int 7919)) (cBin oIx (cV 0) (cK (.int 1))))) (cK (.int 13))) (aNil))) (cK (.int 2147483647))))
      (cSeq (cSet 3 (cBin oMod (cCB bInt (aCons (cBin oMul (cV 3) (cBin oAdd (cV 3) (cK (.int 48271)))) (aNil))) (cK (.int 2147483629))))
      (cSeq (cSet 3 (cBin oMod (cCB bInt (aCons (cBin oAdd (cBin oMul (cV 3) (cBin oAdd (cV 3) (cK (.int 69621)))) (cBin oMul (cK (.int 31)) (cBin oIx (cV 0) (cK (.int 1))))) (aNil))) (cK (.int 2147483647))))
      (cRet (cBin oMod (cCB bInt (aCons (cBin oDiv (cV 3) (cK (.int 9))) (aNil))) (cV 1)))))))))
noncomputable def m_l_whole : MF := fnM 1 (cRet (cAndV (cCB bIsi (aCons (cV 0) (aCons (cK (.ty "int")) (aNil)))) (cBV (cNot (cB (cCB bIsi (aCons (cV 0) (aCons (cK (.ty "bool")) (aNil)))))))))
noncomputable def m_l_due : MF := fnM 5 (cSeq (cSet 3 (cK (.int 0)))
      (cSeq (cFor (iE (cV 1)) (gN 4) (cIfS (cB (cBin oGt (cBin oIx (cV 0) (cV 4)) (cBin oIx (cV 0) (cV 2)))) (cSet 3 (cBin oAdd (cV 3) (cK (.int 1)))) (cNx)) [4])
      (cRet (cBin oAdd (cK (.int 1)) (cV 3)))))
noncomputable def m_l_between : MF := fnM 3 (cRet (cBin oAdd (cV 1) (cCallS m_l_draw [] 2 (aCons (cV 0) (aCons (cBin oAdd (cBin oSub (cV 2) (cV 1)) (cK (.int 1))) (aNil))))))
noncomputable def m_l_picked : MF := fnM 6 (cSeq (cSet 3 (cCB bListA (aCons (cCB bRange1 (aCons (cV 1) (aNil))) (aNil))))
      (cSeq (cSet 4 (cLst (aNil)))
      (cSeq (cFor (iRange1 (aCons (cCB bMin2 (aCons (cV 1) (aCons (cV 2) (aNil)))) (aNil))) (gN 5) (cDrop (cMt mAppend (cV 4) (aCons (cMt mPopAt (cV 3) (aCons (cCallS m_l_draw [] 2 (aCons (cV 0) (aCons (cCB bLen (aCons (cV 3) (aNil))) (aNil)))) (aNil))) (aNil)))) [5])
      (cRet (cV 4)))))
noncomputable def m_l_right : MF := fnM 5 (cSeq (cFor (iE (cV 1)) (gN 3) (cSeq (cSet 4 (cCallT m_rank_in [] 3 (aCons (cBin oIx (cV 2) (cK (.int 0))) (aCons (cBin oIx (cV 2) (cK (.int 1))) (aCons (cV 3) (aNil))))))
      (cIfS (cOr (cNot (cB (cCallP m_l_whole [] 1 (aCons (cV 4) (aNil))))) (cB (cBin oNe (cV 4) (cCallT m_l_due [] 3 (aCons (cV 0) (aCons (cV 1) (aCons (cV 3) (aNil)))))))) (cRet (cK (.bl false))) (cNx))) [3, 4])
      (cRet (cTrim (cAndV (cTrim (cBin oEq (cCB bListA (aCons (cBin oIx (cV 2) (cK (.int 0))) (aNil))) (cV 0))) (cTrim (cBin oEq (cCB bListA (aCons (cBin oIx (cV 2) (cK (.int 1))) (aNil))) (cV 1)))))))
noncomputable def m_l_levels : MF := fnM 6 (cSeq (cSet 2 (cTrim (cBin oIx (cLst (aCons (cK (.int 0)) (aCons (cK (.int 0)) (aCons (cK (.int 0)) (aCons (cK (.int 999999999000)) (aNil)))))) (cCallS m_l_draw [] 2 (aCons (cV 0) (aCons (cK (.int 4)) (aNil)))))))
      (cSeq (cSet 3 (cLst (aCons (cK (.int 0)) (aNil))))
      (cSeq (cFor (iRange2 (aCons (cK (.int 1)) (aCons (cV 1) (aNil)))) (gN 4) (cSeq (cSet 5 (cBin oSub (cK (.int 1)) (cCallS m_l_draw [] 2 (aCons (cV 0) (aCons (cK (.int 3)) (aNil))))))
      (cDrop (cMt mAppend (cV 3) (aCons (cBin oAdd (cBin oMul (cV 5) (cV 2)) (cCallS m_l_between [] 3 (aCons (cV 0) (aCons (cBin oSub (cK (.int 0)) (cK (.int 3))) (aCons (cK (.int 5)) (aNil)))))) (aNil))))) [4, 5])
      (cRet (cV 3)))))
noncomputable def m_law : MF := fnM 11 (cSeq (cSet 1 (cCallN m_l_source [] 2 (aCons (cV 0) (aCons (cK (.int 0)) (aNil)))))
      (cSeq (cSet 2 (cBin oAdd (cK (.int 1)) (cCallS m_l_draw [] 2 (aCons (cV 1) (aCons (cK (.int 8)) (aNil))))))
      (cSeq (cIfS (cB (cBin oEq (cCallS m_l_draw [] 2 (aCons (cV 1) (aCons (cK (.int 8)) (aNil)))) (cK (.int 0)))) (cSet 2 (cK (.int 16))) (cNx))
      (cSeq (cSet 3 (cCallU m_l_levels [] 2 (aCons (cV 1) (aCons (cV 2) (aNil)))))
      (cSeq (cSet 4 (cCallN m_l_source [] 2 (aCons (cV 0) (aCons (cK (.int 1)) (aNil)))))
      (cSeq (cSet 5 (cCallT m_l_picked [] 3 (aCons (cV 4) (aCons (cV 2) (aCons (cBin oAdd (cK (.int 1)) (cCallS m_l_draw [] 2 (aCons (cV 4) (aCons (cV 2) (aNil))))) (aNil))))))
      (cSeq (cIfS (cAnd (cB (cBin oEq (cCallS m_l_draw [] 2 (aCons (cV 4) (aCons (cK (.int 2)) (aNil)))) (cK (.int 1)))) (cNot (cB (cTrim (cCallT m_l_right [] 3 (aCons (cV 3) (aCons (cV 5) (aCons (cLst (aCons (cCB bTuple (aCons (cV 3) (aNil))) (aCons (cCB bTuple (aCons (cV 5) (aNil))) (aNil)))) (aNil))))))))) (cRet (cK (.bl false))) (cNx))
      (cSeq (cSet 6 (cLst (aCons (cCB bListA (aCons (cV 3) (aNil))) (aCons (cCB bListA (aCons (cV 5) (aNil))) (aNil)))))
      (cSeq (cIfS (cOr (cNot (cB (cCallT m_l_right [] 3 (aCons (cV 3) (aCons (cV 5) (aCons (cV 6) (aNil))))))) (cNot (cB (cCallT m_l_right [] 3 (aCons (cV 3) (aCons (cV 5) (aCons (cV 6) (aNil)))))))) (cRet (cK (.bl false))) (cNx))
      (cSeq (cSet 7 (cCallN m_l_source [] 2 (aCons (cV 0) (aCons (cK (.int 2)) (aNil)))))
      (cSeq (cSet 8 (cBin oIx (cV 5) (cCallS m_l_draw [] 2 (aCons (cV 7) (aCons (cCB bLen (aCons (cV 5) (aNil))) (aNil))))))
      (cSeq (cIfS (cB (cBin oGt (cV 8) (cK (.int 0)))) (cSeq (cSet 9 (cBin oIx (cV 5) (cCallS m_l_draw [] 2 (aCons (cV 7) (aCons (cCB bLen (aCons (cV 5) (aNil))) (aNil))))))
      (cSeq (cSub (cV 3) (cV 8) (cBin oAdd (cBin oIx (cV 3) (cV 9)) (cCallS m_l_between [] 3 (aCons (cV 7) (aCons (cBin oSub (cK (.int 0)) (cK (.int 1))) (aCons (cK (.int 1)) (aNil)))))))
      (cSub (cBin oIx (cV 6) (cK (.int 0))) (cV 8) (cBin oIx (cV 3) (cV 8))))) (cNx))
      (cSeq (cSet 5 (cBin oAdd (cSl (cV 5) (partI (cK (.int 1))) (noPart)) (cSl (cV 5) (noPart) (partI (cK (.int 1))))))
      (cSeq (cDrop (cMt mAppend (cBin oIx (cV 6) (cK (.int 1))) (aCons (cMt mPopAt (cBin oIx (cV 6) (cK (.int 1))) (aCons (cK (.int 0)) (aNil))) (aNil))))
      (cSeq (cIfS (cAnd (cB (cBin oGt (cCB bLen (aCons (cV 5) (aNil))) (cK (.int 1)))) (cB (cBin oEq (cCallS m_l_draw [] 2 (aCons (cV 7) (aCons (cK (.int 2)) (aNil)))) (cK (.int 1))))) (cSeq (cSet 5 (cSl (cV 5) (partI (cK (.int 1))) (noPart)))
      (cDrop (cMt mPopAt (cBin oIx (cV 6) (cK (.int 1))) (aCons (cK (.int 0)) (aNil))))) (cNx))
      (cSeq (cIfS (cNot (cB (cCallT m_l_right [] 3 (aCons (cV 3) (aCons (cV 5) (aCons (cV 6) (aNil))))))) (cRet (cK (.bl false))) (cNx))
      (cSeq (cSet 10 (cTrim (cCallP m_rank_in [] 3 (aCons (cCB bListA (aCons (cV 3) (aNil))) (aCons (cLst (aCons (cBin oIx (cV 5) (cK (.int 0))) (aNil))) (aCons (cBin oIx (cV 5) (cK (.int 0))) (aNil)))))))
      (cRet (cAndV (cCallP m_l_whole [] 1 (aCons (cV 10) (aNil))) (cBin oEq (cV 10) (cK (.int 1))))))))))))))))))))))
end Lw
namespace Lw
open PySem PySem.Spec PyProof.Rows L2 FL
def top (i : Nat) : Stmt := PySem.Challenge.pw_counthall_k28_rank_in.main.body.getD i (.Pass ⟨0, 0, 0, 0⟩)
structure Tx (K : Frg) (mg : Str → Option Value) : Prop where
  g_rank_in : mg "rank_in" = some (.ref (He.ga K "rank_in"))
  d_rank_in : ∃ fd, FunD K "rank_in" "rank_in" (defArgs (top 1)) (defBody (top 1)) (defScope (top 1)) [] [] (He.ga K "rank_in") fd
  g_l_source : mg "_law_source" = some (.ref (He.ga K "_law_source"))
  d_l_source : ∃ fd, FunD K "_law_source" "_law_source" (defArgs (top 3)) (defBody (top 3)) (defScope (top 3)) [] [] (He.ga K "_law_source") fd
  g_l_draw : mg "_law_draw" = some (.ref (He.ga K "_law_draw"))
  d_l_draw : ∃ fd, FunD K "_law_draw" "_law_draw" (defArgs (top 4)) (defBody (top 4)) (defScope (top 4)) [] [] (He.ga K "_law_draw") fd
  g_l_whole : mg "_law_whole" = some (.ref (He.ga K "_law_whole"))
  d_l_whole : ∃ fd, FunD K "_law_whole" "_law_whole" (defArgs (top 6)) (defBody (top 6)) (defScope (top 6)) [] [] (He.ga K "_law_whole") fd
  g_l_due : mg "_law_due" = some (.ref (He.ga K "_law_due"))
  d_l_due : ∃ fd, FunD K "_law_due" "_law_due" (defArgs (top 9)) (defBody (top 9)) (defScope (top 9)) [] [] (He.ga K "_law_due") fd
  g_l_between : mg "_law_between" = some (.ref (He.ga K "_law_between"))
  d_l_between : ∃ fd, FunD K "_law_between" "_law_between" (defArgs (top 5)) (defBody (top 5)) (defScope (top 5)) [] [] (He.ga K "_law_between") fd
  g_l_picked : mg "_law_picked" = some (.ref (He.ga K "_law_picked"))
  d_l_picked : ∃ fd, FunD K "_law_picked" "_law_picked" (defArgs (top 8)) (defBody (top 8)) (defScope (top 8)) [] [] (He.ga K "_law_picked") fd
  g_l_right : mg "_law_right" = some (.ref (He.ga K "_law_right"))
  d_l_right : ∃ fd, FunD K "_law_right" "_law_right" (defArgs (top 10)) (defBody (top 10)) (defScope (top 10)) [] [] (He.ga K "_law_right") fd
  g_l_levels : mg "_law_levels" = some (.ref (He.ga K "_law_levels"))
  d_l_levels : ∃ fd, FunD K "_law_levels" "_law_levels" (defArgs (top 7)) (defBody (top 7)) (defScope (top 7)) [] [] (He.ga K "_law_levels") fd
  g_law : mg "law" = some (.ref (He.ga K "law"))
  d_law : ∃ fd, FunD K "law" "law" (defArgs (top 11)) (defBody (top 11)) (defScope (top 11)) [] [] (He.ga K "law") fd
  b_abs : mg "abs" = none
  b_bool : mg "bool" = none
  b_int : mg "int" = none
  b_isinstance : mg "isinstance" = none
  b_len : mg "len" = none
  b_list : mg "list" = none
  b_min : mg "min" = none
  b_range : mg "range" = none
  b_tuple : mg "tuple" = none
abbrev s_rank_in : Stmt := top 1
abbrev nm_rank_in : List Str := ["levels", "holders", "node", "own", "holder"]
theorem sc_rank_in : FnScope nm_rank_in ["levels", "holders", "node"] (defScope s_rank_in) := sc_mk rfl rfl rfl (by decide +kernel) rfl (by decide +kernel) (by decide +kernel)
theorem ok_rank_in {P : Program} {w : World} {K : Frg} {mg : Str → Option Value} (T : Tx K mg)  : OkD P w K mg 1 "rank_in" ["levels", "holders", "node"] m_rank_in := by
  have sc := sc_rank_in
  refine mkD (N := nm_rank_in) (g := cSeq (cSet 3 (cBin oIx (cV 0) (cV 2)))
      (cRet (cBin oAdd (cK (.int 1)) (cTrim (cCB bLen (aCons (cComp (iE (cV 1)) (gN 4) (cB (cBin oGt (cBin oIx (cV 0) (cV 4)) (cV 3))) (cV 4) [4]) (aNil))))))) T.d_rank_in T.g_rank_in sc (fun _ _ _ _ _ _ us hl => match us, hl with | [_, _, _], _ => rfl) fun base cdv A outer s H E hr => ?_
  exact fss_cons (fs_set 3 (fe_ix (fv 0) (fv 2)) sc.nd)
      (fss_one (fs_ret (fe_op f_add (fe_int) (fe_trim (fe_callB f_len (by rfl) T.b_len (by decide +kernel) (fa_cons (fe_lc (own := [("holder", 4)]) rfl sc.nd (fi_seq (fv 1)) (blkOk_by (N := nm_rank_in) (sc := defScope s_rank_in) (by decide +kernel)) (fun _ _ _ _ _ => fg_name 4 sc.nd) (fun _ _ _ _ _ => fts_one (fb_cmp f_gt (fe_ix (fv 0) (fv 4)) (fv 3) (nomark _))) (fun _ _ _ _ _ => fv 4)) (fa_nil)))))))
abbrev s_l_source : Stmt := top 3
abbrev nm_l_source : List Str := ["_law_script", "_law_place"]
theorem sc_l_source : FnScope nm_l_source ["_law_script", "_law_place"] (defScope s_l_source) := sc_mk rfl rfl rfl (by decide +kernel) rfl (by decide +kernel) (by decide +kernel)
theorem ok_l_source {P : Program} {w : World} {K : Frg} {mg : Str → Option Value} (T : Tx K mg)  : OkD P w K mg 1 "_law_source" ["_law_script", "_law_place"] m_l_source := by
  have sc := sc_l_source
  refine mkD (N := nm_l_source) (g := cSeq (cIfS (cB (cBin oLt (cV 1) (cCB bLen (aCons (cV 0) (aNil))))) (cRet (cLst (aCons (cCB bAbs (aCons (cBin oIx (cV 0) (cV 1)) (aNil))) (aCons (cV 1) (aNil))))) (cNx))
      (cSeq (cIfS (cB (cBin oEq (cCB bLen (aCons (cV 0) (aNil))) (cK (.int 0)))) (cRet (cLst (aCons (cBin oAdd (cBin oMul (cK (.int 1009)) (cV 1)) (cK (.int 17))) (aCons (cV 1) (aNil))))) (cNx))
      (cRet (cLst (aCons (cBin oAdd (cBin oAdd (cBin oMul (cK (.int 31)) (cCB bAbs (aCons (cBin oIx (cV 0) (cBin oMod (cCB bInt (aCons (cV 1) (aNil))) (cCB bLen (aCons (cV 0) (aNil))))) (aNil)))) (cBin oMul (cK (.int 1009)) (cV 1))) (cK (.int 17))) (aCons (cV 1) (aNil))))))) T.d_l_source T.g_l_source sc (fun _ _ _ _ _ _ us hl => match us, hl with | [_, _], _ => rfl) fun base cdv A outer s H E hr => ?_
  exact fss_cons (fs_if (fb_cmp f_lt (fv 1) (fe_callB f_len (by rfl) T.b_len (by decide +kernel) (fa_cons (fv 0) (fa_nil))) (nomark _)) (fss_one (fs_ret (fe_lst (fa_cons (fe_callB f_abs (by rfl) T.b_abs (by decide +kernel) (fa_cons (fe_ix (fv 0) (fv 1)) (fa_nil))) (fa_cons (fv 1) (fa_nil)))))) (fss_nil))
      (fss_cons (fs_if (fb_cmp (f_eq hr.units) (fe_callB f_len (by rfl) T.b_len (by decide +kernel) (fa_cons (fv 0) (fa_nil))) (fe_int) (nomark _)) (fss_one (fs_ret (fe_lst (fa_cons (fe_op f_add (fe_op f_mul (fe_int) (fv 1)) (fe_int)) (fa_cons (fv 1) (fa_nil)))))) (fss_nil))
      (fss_one (fs_ret (fe_lst (fa_cons (fe_op f_add (fe_op f_add (fe_op f_mul (fe_int) (fe_callB f_abs (by rfl) T.b_abs (by decide +kernel) (fa_cons (fe_ix (fv 0) (fe_op f_mod (fe_callTy f_int (by rfl) T.b_int (by decide +kernel) (fa_cons (fv 1) (fa_nil))) (fe_callB f_len (by rfl) T.b_len (by decide +kernel) (fa_cons (fv 0) (fa_nil))))) (fa_nil)))) (fe_op f_mul (fe_int) (fv 1))) (fe_int)) (fa_cons (fv 1) (fa_nil)))))))
abbrev s_l_draw : Stmt := top 4
abbrev nm_l_draw : List Str := ["_law_source_here", "_law_size", "_law_cell", "_law_mixed"]
theorem sc_l_draw : FnScope nm_l_draw ["_law_source_here", "_law_size"] (defScope s_l_draw) := sc_mk rfl rfl rfl (by decide +kernel) rfl (by decide +kernel) (by decide +kernel)
theorem ok_l_draw {P : Program} {w : World} {K : Frg} {mg : Str → Option Value} (T : Tx K mg)  : OkD P w K mg 1 "_law_draw" ["_law_source_here", "_law_size"] m_l_draw := by
  have sc := sc_l_draw
  refine mkD (N := nm_l_draw) (g := cSeq (cSet 2 (cBin oIx (cV 0) (cK (.int 0))))
      (cSeq (cIfS (cB (cBin oGe (cV 2) (cBin oPow (cK (.int 10)) (cK (.int 18))))) (cSeq (cSub (cV 0) (cK (.int 0)) (cBin oDiv (cV 2) (cV 1)))
      (cRet (cBin oMod (cCB bInt (aCons (cV 2) (aNil))) (cV 1)))) (cNx))
      (cSeq (cSub (cV 0) (cK (.int 1)) (cBin oAdd (cBin oIx (cV 0) (cK (.int 1))) (cK (.int 1))))
      (cSeq (cSet 3 (cBin oMod (cCB bInt (aCons (cBin oAdd (cBin oAdd (cV 2) (cBin oMul (cK (.int 7919)) (cBin oIx (cV 0) (cK (.int 1))))) (cK (.int 13))) (aNil))) (cK (.int 2147483647))))
      (cSeq (cSet 3 (cBin oMod (cCB bInt (aCons (cBin oMul (cV 3) (cBin oAdd (cV 3) (cK (.int 48271)))) (aNil))) (cK (.int 2147483629))))
      (cSeq (cSet 3 (cBin oMod (cCB bInt (aCons (cBin oAdd (cBin oMul (cV 3) (cBin oAdd (cV 3) (cK (.int 69621)))) (cBin oMul (cK (.int 31)) (cBin oIx (cV 0) (cK (.int 1))))) (aNil))) (cK (.int 2147483647))))
      (cRet (cBin oMod (cCB bInt (aCons (cBin oDiv (cV 3) (cK (.int 9))) (aNil))) (cV 1))))))))) T.d_l_draw T.g_l_draw sc (fun _ _ _ _ _ _ us hl => match us, hl with | [_, _], _ => rfl) fun base cdv A outer s H E hr => ?_
  exact fss_cons (fs_set 2 (fe_ix (fv 0) (fe_int)) sc.nd)
      (fss_cons (fs_if (fb_cmp f_ge (fv 2) (fe_op f_pow (fe_int) (fe_int)) (nomark _)) (fss_cons (fs_sub (fe_op f_div (fv 2) (fv 1)) (fv 0) (fe_int))
      (fss_one (fs_ret (fe_op f_mod (fe_callTy f_int (by rfl) T.b_int (by decide +kernel) (fa_cons (fv 2) (fa_nil))) (fv 1))))) (fss_nil))
      (fss_cons (fs_sub (fe_op f_add (fe_ix (fv 0) (fe_int)) (fe_int)) (fv 0) (fe_int))
      (fss_cons (fs_set 3 (fe_op f_mod (fe_callTy f_int (by rfl) T.b_int (by decide +kernel) (fa_cons (fe_op f_add (fe_op f_add (fv 2) (fe_op f_mul (fe_int) (fe_ix (fv 0) (fe_int)))) (fe_int)) (fa_nil))) (fe_int)) sc.nd)
      (fss_cons (fs_set 3 (fe_op f_mod (fe_callTy f_int (by rfl) T.b_int (by decide +kernel) (fa_cons (fe_op f_mul (fv 3) (fe_op f_add (fv 3) (fe_int))) (fa_nil))) (fe_int)) sc.nd)
      (fss_cons (fs_set 3 (fe_op f_mod (fe_callTy f_int (by rfl) T.b_int (by decide +kernel) (fa_cons (fe_op f_add (fe_op f_mul (fv 3) (fe_op f_add (fv 3) (fe_int))) (fe_op f_mul (fe_int) (fe_ix (fv 0) (fe_int)))) (fa_nil))) (fe_int)) sc.nd)
      (fss_one (fs_ret (fe_op f_mod (fe_callTy f_int (by rfl) T.b_int (by decide +kernel) (fa_cons (fe_op f_div (fv 3) (fe_int)) (fa_nil))) (fv 1)))))))))
abbrev s_l_whole : Stmt := top 6
abbrev nm_l_whole : List Str := ["_law_actual"]
theorem sc_l_whole : FnScope nm_l_whole ["_law_actual"] (defScope s_l_whole) := sc_mk rfl rfl rfl (by decide +kernel) rfl (by decide +kernel) (by decide +kernel)
theorem ok_l_whole {P : Program} {w : World} {K : Frg} {mg : Str → Option Value} (T : Tx K mg)  : OkD P w K mg 1 "_law_whole" ["_law_actual"] m_l_whole := by
  have sc := sc_l_whole
  refine mkD (N := nm_l_whole) (g := cRet (cAndV (cCB bIsi (aCons (cV 0) (aCons (cK (.ty "int")) (aNil)))) (cBV (cNot (cB (cCB bIsi (aCons (cV 0) (aCons (cK (.ty "bool")) (aNil))))))))) T.d_l_whole T.g_l_whole sc (fun _ _ _ _ _ _ us hl => match us, hl with | [_], _ => rfl) fun base cdv A outer s H E hr => ?_
  exact fss_one (fs_ret (fe_and (fe_callB f_isi (by rfl) T.b_isinstance (by decide +kernel) (fa_cons (fv 0) (fa_cons (fe_ty (by rfl) T.b_int (by decide +kernel) rfl) (fa_nil)))) (fe_one (fe_not (fe_callB f_isi (by rfl) T.b_isinstance (by decide +kernel) (fa_cons (fv 0) (fa_cons (fe_ty (by rfl) T.b_bool (by decide +kernel) rfl) (fa_nil))))))))
abbrev s_l_due : Stmt := top 9
abbrev nm_l_due : List Str := ["_law_levels_here", "_law_holders", "_law_node", "_law_ahead", "_law_other"]
theorem sc_l_due : FnScope nm_l_due ["_law_levels_here", "_law_holders", "_law_node"] (defScope s_l_due) := sc_mk rfl rfl rfl (by decide +kernel) rfl (by decide +kernel) (by decide +kernel)
theorem ok_l_due {P : Program} {w : World} {K : Frg} {mg : Str → Option Value} (T : Tx K mg)  : OkD P w K mg 1 "_law_due" ["_law_levels_here", "_law_holders", "_law_node"] m_l_due := by
  have sc := sc_l_due
  refine mkD (N := nm_l_due) (g := cSeq (cSet 3 (cK (.int 0)))
      (cSeq (cFor (iE (cV 1)) (gN 4) (cIfS (cB (cBin oGt (cBin oIx (cV 0) (cV 4)) (cBin oIx (cV 0) (cV 2)))) (cSet 3 (cBin oAdd (cV 3) (cK (.int 1)))) (cNx)) [4])
      (cRet (cBin oAdd (cK (.int 1)) (cV 3))))) T.d_l_due T.g_l_due sc (fun _ _ _ _ _ _ us hl => match us, hl with | [_, _, _], _ => rfl) fun base cdv A outer s H E hr => ?_
  exact fss_cons (fs_set 3 (fe_int) sc.nd)
      (fss_cons (fs_for [4] PassesOwn.never rfl (fi_seq (fv 1)) (fg_name 4 sc.nd) (fss_one (fs_if (fb_cmp f_gt (fe_ix (fv 0) (fv 4)) (fe_ix (fv 0) (fv 2)) (nomark _)) (fss_one (fs_set 3 (fe_op f_add (fv 3) (fe_int)) sc.nd)) (fss_nil))))
      (fss_one (fs_ret (fe_op f_add (fe_int) (fv 3)))))
abbrev s_l_between : Stmt := top 5
abbrev nm_l_between : List Str := ["_law_source_here", "_law_least", "_law_most"]
theorem sc_l_between : FnScope nm_l_between ["_law_source_here", "_law_least", "_law_most"] (defScope s_l_between) := sc_mk rfl rfl rfl (by decide +kernel) rfl (by decide +kernel) (by decide +kernel)
theorem ok_l_between {P : Program} {w : World} {K : Frg} {mg : Str → Option Value} (T : Tx K mg) (h_l_draw : OkD P w K mg 1 "_law_draw" ["_law_source_here", "_law_size"] m_l_draw) : OkD P w K mg 2 "_law_between" ["_law_source_here", "_law_least", "_law_most"] m_l_between := by
  have sc := sc_l_between
  refine mkD (N := nm_l_between) (g := cRet (cBin oAdd (cV 1) (cCallS m_l_draw [] 2 (aCons (cV 0) (aCons (cBin oAdd (cBin oSub (cV 2) (cV 1)) (cK (.int 1))) (aNil)))))) T.d_l_between T.g_l_between sc (fun _ _ _ _ _ _ us hl => match us, hl with | [_, _, _], _ => rfl) fun base cdv A outer s H E hr => ?_
  exact fss_one (fs_ret (fe_op f_add (fv 1) (fe_cS h_l_draw hr (fa_cons (fv 0) (fa_cons (fe_op f_add (fe_op f_sub (fv 2) (fv 1)) (fe_int)) (fa_nil))))))
abbrev s_l_picked : Stmt := top 8
abbrev nm_l_picked : List Str := ["_law_source_here", "_law_size", "_law_count", "_law_left", "_law_picked_here", "_law_turn"]
theorem sc_l_picked : FnScope nm_l_picked ["_law_source_here", "_law_size", "_law_count"] (defScope s_l_picked) := sc_mk rfl rfl rfl (by decide +kernel) rfl (by decide +kernel) (by decide +kernel)
theorem ok_l_picked {P : Program} {w : World} {K : Frg} {mg : Str → Option Value} (T : Tx K mg) (h_l_draw : OkD P w K mg 1 "_law_draw" ["_law_source_here", "_law_size"] m_l_draw) : OkD P w K mg 2 "_law_picked" ["_law_source_here", "_law_size", "_law_count"] m_l_picked := by
  have sc := sc_l_picked
  refine mkD (N := nm_l_picked) (g := cSeq (cSet 3 (cCB bListA (aCons (cCB bRange1 (aCons (cV 1) (aNil))) (aNil))))
      (cSeq (cSet 4 (cLst (aNil)))
      (cSeq (cFor (iRange1 (aCons (cCB bMin2 (aCons (cV 1) (aCons (cV 2) (aNil)))) (aNil))) (gN 5) (cDrop (cMt mAppend (cV 4) (aCons (cMt mPopAt (cV 3) (aCons (cCallS m_l_draw [] 2 (aCons (cV 0) (aCons (cCB bLen (aCons (cV 3) (aNil))) (aNil)))) (aNil))) (aNil)))) [5])
      (cRet (cV 4))))) T.d_l_picked T.g_l_picked sc (fun _ _ _ _ _ _ us hl => match us, hl with | [_, _, _], _ => rfl) fun base cdv A outer s H E hr => ?_
  exact fss_cons (fs_set 3 (fe_callTy (f_listA rfl) (by rfl) T.b_list (by decide +kernel) (fa_cons (fe_callTy f_range1 (by rfl) T.b_range (by decide +kernel) (fa_cons (fv 1) (fa_nil))) (fa_nil))) sc.nd)
      (fss_cons (fs_set 4 (fe_lst (fa_nil)) sc.nd)
      (fss_cons (fs_for [5] PassesOwn.never rfl (fi_range1 (by rfl) T.b_range (fa_cons (fe_callB (f_min2 rfl) (by rfl) T.b_min (by decide +kernel) (fa_cons (fv 1) (fa_cons (fv 2) (fa_nil)))) (fa_nil))) (fg_name 5 sc.nd) (fss_one (fs_expr (fe_mt PySem.F.slot_list_append PySem.F.type_list_append m_append (fv 4) (fa_cons (fe_mt PySem.F.slot_list_pop PySem.F.type_list_pop m_popAt (fv 3) (fa_cons (fe_cS h_l_draw hr (fa_cons (fv 0) (fa_cons (fe_callB f_len (by rfl) T.b_len (by decide +kernel) (fa_cons (fv 3) (fa_nil))) (fa_nil)))) (fa_nil))) (fa_nil))))))
      (fss_one (fs_ret (fv 4)))))
abbrev s_l_right : Stmt := top 10
abbrev nm_l_right : List Str := ["_law_levels_here", "_law_holders", "_law_passed", "_law_node", "_law_told"]
theorem sc_l_right : FnScope nm_l_right ["_law_levels_here", "_law_holders", "_law_passed"] (defScope s_l_right) := sc_mk rfl rfl rfl (by decide +kernel) rfl (by decide +kernel) (by decide +kernel)
theorem ok_l_right {P : Program} {w : World} {K : Frg} {mg : Str → Option Value} (T : Tx K mg) (h_l_due : OkD P w K mg 1 "_law_due" ["_law_levels_here", "_law_holders", "_law_node"] m_l_due) (h_l_whole : OkD P w K mg 1 "_law_whole" ["_law_actual"] m_l_whole) (h_rank_in : OkD P w K mg 1 "rank_in" ["levels", "holders", "node"] m_rank_in) : OkD P w K mg 2 "_law_right" ["_law_levels_here", "_law_holders", "_law_passed"] m_l_right := by
  have sc := sc_l_right
  refine mkD (N := nm_l_right) (g := cSeq (cFor (iE (cV 1)) (gN 3) (cSeq (cSet 4 (cCallT m_rank_in [] 3 (aCons (cBin oIx (cV 2) (cK (.int 0))) (aCons (cBin oIx (cV 2) (cK (.int 1))) (aCons (cV 3) (aNil))))))
      (cIfS (cOr (cNot (cB (cCallP m_l_whole [] 1 (aCons (cV 4) (aNil))))) (cB (cBin oNe (cV 4) (cCallT m_l_due [] 3 (aCons (cV 0) (aCons (cV 1) (aCons (cV 3) (aNil)))))))) (cRet (cK (.bl false))) (cNx))) [3, 4])
      (cRet (cTrim (cAndV (cTrim (cBin oEq (cCB bListA (aCons (cBin oIx (cV 2) (cK (.int 0))) (aNil))) (cV 0))) (cTrim (cBin oEq (cCB bListA (aCons (cBin oIx (cV 2) (cK (.int 1))) (aNil))) (cV 1))))))) T.d_l_right T.g_l_right sc (fun _ _ _ _ _ _ us hl => match us, hl with | [_, _, _], _ => rfl) fun base cdv A outer s H E hr => ?_
  exact fss_cons (fs_for [3, 4] PassesOwn.never rfl (fi_seq (fv 1)) (fg_name 3 sc.nd) (fss_cons (fs_set 4 (fe_cT h_rank_in hr (fa_cons (fe_ix (fv 2) (fe_int)) (fa_cons (fe_ix (fv 2) (fe_int)) (fa_cons (fv 3) (fa_nil))))) sc.nd)
      (fss_one (fs_if (fb_w (fw_or (fb_not (fb_val (fe_cP h_l_whole hr (fa_cons (fv 4) (fa_nil))))) (fw_or1 (fb_cmp (f_ne hr.units) (fv 4) (fe_cT h_l_due hr (fa_cons (fv 0) (fa_cons (fv 1) (fa_cons (fv 3) (fa_nil))))) (nomark _))))) (fss_one (fs_ret (fe_bl))) (fss_nil)))))
      (fss_one (fs_ret (fe_trim (fe_and (fe_trim (fe_cmp (f_eq hr.units) (fe_callTy (f_listA rfl) (by rfl) T.b_list (by decide +kernel) (fa_cons (fe_ix (fv 2) (fe_int)) (fa_nil))) (fv 0) (nomark _))) (fe_one (fe_trim (fe_cmp (f_eq hr.units) (fe_callTy (f_listA rfl) (by rfl) T.b_list (by decide +kernel) (fa_cons (fe_ix (fv 2) (fe_int)) (fa_nil))) (fv 1) (nomark _))))))))
abbrev s_l_levels : Stmt := top 7
abbrev nm_l_levels : List Str := ["_law_source_here", "_law_size", "_law_far", "_law_levels_here", "_law_node", "_law_sign"]
theorem sc_l_levels : FnScope nm_l_levels ["_law_source_here", "_law_size"] (defScope s_l_levels) := sc_mk rfl rfl rfl (by decide +kernel) rfl (by decide +kernel) (by decide +kernel)
theorem ok_l_levels {P : Program} {w : World} {K : Frg} {mg : Str → Option Value} (T : Tx K mg) (h_l_between : OkD P w K mg 2 "_law_between" ["_law_source_here", "_law_least", "_law_most"] m_l_between) (h_l_draw : OkD P w K mg 1 "_law_draw" ["_law_source_here", "_law_size"] m_l_draw) : OkD P w K mg 3 "_law_levels" ["_law_source_here", "_law_size"] m_l_levels := by
  have sc := sc_l_levels
  refine mkD (N := nm_l_levels) (g := cSeq (cSet 2 (cTrim (cBin oIx (cLst (aCons (cK (.int 0)) (aCons (cK (.int 0)) (aCons (cK (.int 0)) (aCons (cK (.int 999999999000)) (aNil)))))) (cCallS m_l_draw [] 2 (aCons (cV 0) (aCons (cK (.int 4)) (aNil)))))))
      (cSeq (cSet 3 (cLst (aCons (cK (.int 0)) (aNil))))
      (cSeq (cFor (iRange2 (aCons (cK (.int 1)) (aCons (cV 1) (aNil)))) (gN 4) (cSeq (cSet 5 (cBin oSub (cK (.int 1)) (cCallS m_l_draw [] 2 (aCons (cV 0) (aCons (cK (.int 3)) (aNil))))))
      (cDrop (cMt mAppend (cV 3) (aCons (cBin oAdd (cBin oMul (cV 5) (cV 2)) (cCallS m_l_between [] 3 (aCons (cV 0) (aCons (cBin oSub (cK (.int 0)) (cK (.int 3))) (aCons (cK (.int 5)) (aNil)))))) (aNil))))) [4, 5])
      (cRet (cV 3))))) T.d_l_levels T.g_l_levels sc (fun _ _ _ _ _ _ us hl => match us, hl with | [_, _], _ => rfl) fun base cdv A outer s H E hr => ?_
  exact fss_cons (fs_set 2 (fe_trim (fe_ix (fe_lst (fa_cons (fe_int) (fa_cons (fe_int) (fa_cons (fe_int) (fa_cons (fe_int) (fa_nil)))))) (fe_cS h_l_draw (hr.mono (by decide)) (fa_cons (fv 0) (fa_cons (fe_int) (fa_nil)))))) sc.nd)
      (fss_cons (fs_set 3 (fe_lst (fa_cons (fe_int) (fa_nil))) sc.nd)
      (fss_cons (fs_for [4, 5] PassesOwn.never rfl (fi_range2 (by rfl) T.b_range (fa_cons (fe_int) (fa_cons (fv 1) (fa_nil)))) (fg_name 4 sc.nd) (fss_cons (fs_set 5 (fe_op f_sub (fe_int) (fe_cS h_l_draw (hr.mono (by decide)) (fa_cons (fv 0) (fa_cons (fe_int) (fa_nil))))) sc.nd)
      (fss_one (fs_expr (fe_mt PySem.F.slot_list_append PySem.F.type_list_append m_append (fv 3) (fa_cons (fe_op f_add (fe_op f_mul (fv 5) (fv 2)) (fe_cS h_l_between hr (fa_cons (fv 0) (fa_cons (fe_op f_sub (fe_int) (fe_int)) (fa_cons (fe_int) (fa_nil)))))) (fa_nil)))))))
      (fss_one (fs_ret (fv 3)))))
abbrev s_law : Stmt := top 11
abbrev nm_law : List Str := ["_law_script", "_law_source_here", "_law_size", "_law_levels_here", "_law_asker", "_law_holders", "_law_passed", "_law_mover", "_law_moved", "_law_like", "_law_alone"]
theorem sc_law : FnScope nm_law ["_law_script"] (defScope s_law) := sc_mk rfl rfl rfl (by decide +kernel) rfl (by decide +kernel) (by decide +kernel)
theorem ok_law {P : Program} {w : World} {K : Frg} {mg : Str → Option Value} (T : Tx K mg) (h_l_between : OkD P w K mg 2 "_law_between" ["_law_source_here", "_law_least", "_law_most"] m_l_between) (h_l_draw : OkD P w K mg 1 "_law_draw" ["_law_source_here", "_law_size"] m_l_draw) (h_l_levels : OkD P w K mg 3 "_law_levels" ["_law_source_here", "_law_size"] m_l_levels) (h_l_picked : OkD P w K mg 2 "_law_picked" ["_law_source_here", "_law_size", "_law_count"] m_l_picked) (h_l_right : OkD P w K mg 2 "_law_right" ["_law_levels_here", "_law_holders", "_law_passed"] m_l_right) (h_l_source : OkD P w K mg 1 "_law_source" ["_law_script", "_law_place"] m_l_source) (h_l_whole : OkD P w K mg 1 "_law_whole" ["_law_actual"] m_l_whole) (h_rank_in : OkD P w K mg 1 "rank_in" ["levels", "holders", "node"] m_rank_in) : OkD P w K mg 4 "law" ["_law_script"] m_law := by
  have sc := sc_law
  refine mkD (N := nm_law) (g := cSeq (cSet 1 (cCallN m_l_source [] 2 (aCons (cV 0) (aCons (cK (.int 0)) (aNil)))))
      (cSeq (cSet 2 (cBin oAdd (cK (.int 1)) (cCallS m_l_draw [] 2 (aCons (cV 1) (aCons (cK (.int 8)) (aNil))))))
      (cSeq (cIfS (cB (cBin oEq (cCallS m_l_draw [] 2 (aCons (cV 1) (aCons (cK (.int 8)) (aNil)))) (cK (.int 0)))) (cSet 2 (cK (.int 16))) (cNx))
      (cSeq (cSet 3 (cCallU m_l_levels [] 2 (aCons (cV 1) (aCons (cV 2) (aNil)))))
      (cSeq (cSet 4 (cCallN m_l_source [] 2 (aCons (cV 0) (aCons (cK (.int 1)) (aNil)))))
      (cSeq (cSet 5 (cCallT m_l_picked [] 3 (aCons (cV 4) (aCons (cV 2) (aCons (cBin oAdd (cK (.int 1)) (cCallS m_l_draw [] 2 (aCons (cV 4) (aCons (cV 2) (aNil))))) (aNil))))))
      (cSeq (cIfS (cAnd (cB (cBin oEq (cCallS m_l_draw [] 2 (aCons (cV 4) (aCons (cK (.int 2)) (aNil)))) (cK (.int 1)))) (cNot (cB (cTrim (cCallT m_l_right [] 3 (aCons (cV 3) (aCons (cV 5) (aCons (cLst (aCons (cCB bTuple (aCons (cV 3) (aNil))) (aCons (cCB bTuple (aCons (cV 5) (aNil))) (aNil)))) (aNil))))))))) (cRet (cK (.bl false))) (cNx))
      (cSeq (cSet 6 (cLst (aCons (cCB bListA (aCons (cV 3) (aNil))) (aCons (cCB bListA (aCons (cV 5) (aNil))) (aNil)))))
      (cSeq (cIfS (cOr (cNot (cB (cCallT m_l_right [] 3 (aCons (cV 3) (aCons (cV 5) (aCons (cV 6) (aNil))))))) (cNot (cB (cCallT m_l_right [] 3 (aCons (cV 3) (aCons (cV 5) (aCons (cV 6) (aNil)))))))) (cRet (cK (.bl false))) (cNx))
      (cSeq (cSet 7 (cCallN m_l_source [] 2 (aCons (cV 0) (aCons (cK (.int 2)) (aNil)))))
      (cSeq (cSet 8 (cBin oIx (cV 5) (cCallS m_l_draw [] 2 (aCons (cV 7) (aCons (cCB bLen (aCons (cV 5) (aNil))) (aNil))))))
      (cSeq (cIfS (cB (cBin oGt (cV 8) (cK (.int 0)))) (cSeq (cSet 9 (cBin oIx (cV 5) (cCallS m_l_draw [] 2 (aCons (cV 7) (aCons (cCB bLen (aCons (cV 5) (aNil))) (aNil))))))
      (cSeq (cSub (cV 3) (cV 8) (cBin oAdd (cBin oIx (cV 3) (cV 9)) (cCallS m_l_between [] 3 (aCons (cV 7) (aCons (cBin oSub (cK (.int 0)) (cK (.int 1))) (aCons (cK (.int 1)) (aNil)))))))
      (cSub (cBin oIx (cV 6) (cK (.int 0))) (cV 8) (cBin oIx (cV 3) (cV 8))))) (cNx))
      (cSeq (cSet 5 (cBin oAdd (cSl (cV 5) (partI (cK (.int 1))) (noPart)) (cSl (cV 5) (noPart) (partI (cK (.int 1))))))
      (cSeq (cDrop (cMt mAppend (cBin oIx (cV 6) (cK (.int 1))) (aCons (cMt mPopAt (cBin oIx (cV 6) (cK (.int 1))) (aCons (cK (.int 0)) (aNil))) (aNil))))
      (cSeq (cIfS (cAnd (cB (cBin oGt (cCB bLen (aCons (cV 5) (aNil))) (cK (.int 1)))) (cB (cBin oEq (cCallS m_l_draw [] 2 (aCons (cV 7) (aCons (cK (.int 2)) (aNil)))) (cK (.int 1))))) (cSeq (cSet 5 (cSl (cV 5) (partI (cK (.int 1))) (noPart)))
      (cDrop (cMt mPopAt (cBin oIx (cV 6) (cK (.int 1))) (aCons (cK (.int 0)) (aNil))))) (cNx))
      (cSeq (cIfS (cNot (cB (cCallT m_l_right [] 3 (aCons (cV 3) (aCons (cV 5) (aCons (cV 6) (aNil))))))) (cRet (cK (.bl false))) (cNx))
      (cSeq (cSet 10 (cTrim (cCallP m_rank_in [] 3 (aCons (cCB bListA (aCons (cV 3) (aNil))) (aCons (cLst (aCons (cBin oIx (cV 5) (cK (.int 0))) (aNil))) (aCons (cBin oIx (cV 5) (cK (.int 0))) (aNil)))))))
      (cRet (cAndV (cCallP m_l_whole [] 1 (aCons (cV 10) (aNil))) (cBin oEq (cV 10) (cK (.int 1)))))))))))))))))))))) T.d_law T.g_law sc (fun _ _ _ _ _ _ us hl => match us, hl with | [_], _ => rfl) fun base cdv A outer s H E hr => ?_
  exact fss_cons (fs_set 1 (fe_cN h_l_source (hr.mono (by decide)) (fa_cons (fv 0) (fa_cons (fe_int) (fa_nil)))) sc.nd)
      (fss_cons (fs_set 2 (fe_op f_add (fe_int) (fe_cS h_l_draw (hr.mono (by decide)) (fa_cons (fv 1) (fa_cons (fe_int) (fa_nil))))) sc.nd)
      (fss_cons (fs_if (fb_cmp (f_eq hr.units) (fe_cS h_l_draw (hr.mono (by decide)) (fa_cons (fv 1) (fa_cons (fe_int) (fa_nil)))) (fe_int) (nomark _)) (fss_one (fs_set 2 (fe_int) sc.nd)) (fss_nil))
      (fss_cons (fs_set 3 (fe_cU h_l_levels hr (fa_cons (fv 1) (fa_cons (fv 2) (fa_nil)))) sc.nd)
      (fss_cons (fs_set 4 (fe_cN h_l_source (hr.mono (by decide)) (fa_cons (fv 0) (fa_cons (fe_int) (fa_nil)))) sc.nd)
      (fss_cons (fs_set 5 (fe_cT h_l_picked (hr.mono (by decide)) (fa_cons (fv 4) (fa_cons (fv 2) (fa_cons (fe_op f_add (fe_int) (fe_cS h_l_draw (hr.mono (by decide)) (fa_cons (fv 4) (fa_cons (fv 2) (fa_nil))))) (fa_nil))))) sc.nd)
      (fss_cons (fs_if (fb_w (fw_and (fb_cmp (f_eq hr.units) (fe_cS h_l_draw (hr.mono (by decide)) (fa_cons (fv 4) (fa_cons (fe_int) (fa_nil)))) (fe_int) (nomark _)) (fw_and1 (fb_not (fb_val (fe_trim (fe_cT h_l_right (hr.mono (by decide)) (fa_cons (fv 3) (fa_cons (fv 5) (fa_cons (fe_lst (fa_cons (fe_callTy f_tuple (by rfl) T.b_tuple (by decide +kernel) (fa_cons (fv 3) (fa_nil))) (fa_cons (fe_callTy f_tuple (by rfl) T.b_tuple (by decide +kernel) (fa_cons (fv 5) (fa_nil))) (fa_nil)))) (fa_nil))))))))))) (fss_one (fs_ret (fe_bl))) (fss_nil))
      (fss_cons (fs_set 6 (fe_lst (fa_cons (fe_callTy (f_listA rfl) (by rfl) T.b_list (by decide +kernel) (fa_cons (fv 3) (fa_nil))) (fa_cons (fe_callTy (f_listA rfl) (by rfl) T.b_list (by decide +kernel) (fa_cons (fv 5) (fa_nil))) (fa_nil)))) sc.nd)
      (fss_cons (fs_if (fb_w (fw_or (fb_not (fb_val (fe_cT h_l_right (hr.mono (by decide)) (fa_cons (fv 3) (fa_cons (fv 5) (fa_cons (fv 6) (fa_nil))))))) (fw_or1 (fb_not (fb_val (fe_cT h_l_right (hr.mono (by decide)) (fa_cons (fv 3) (fa_cons (fv 5) (fa_cons (fv 6) (fa_nil)))))))))) (fss_one (fs_ret (fe_bl))) (fss_nil))
      (fss_cons (fs_set 7 (fe_cN h_l_source (hr.mono (by decide)) (fa_cons (fv 0) (fa_cons (fe_int) (fa_nil)))) sc.nd)
      (fss_cons (fs_set 8 (fe_ix (fv 5) (fe_cS h_l_draw (hr.mono (by decide)) (fa_cons (fv 7) (fa_cons (fe_callB f_len (by rfl) T.b_len (by decide +kernel) (fa_cons (fv 5) (fa_nil))) (fa_nil))))) sc.nd)
      (fss_cons (fs_if (fb_cmp f_gt (fv 8) (fe_int) (nomark _)) (fss_cons (fs_set 9 (fe_ix (fv 5) (fe_cS h_l_draw (hr.mono (by decide)) (fa_cons (fv 7) (fa_cons (fe_callB f_len (by rfl) T.b_len (by decide +kernel) (fa_cons (fv 5) (fa_nil))) (fa_nil))))) sc.nd)
      (fss_cons (fs_sub (fe_op f_add (fe_ix (fv 3) (fv 9)) (fe_cS h_l_between (hr.mono (by decide)) (fa_cons (fv 7) (fa_cons (fe_op f_sub (fe_int) (fe_int)) (fa_cons (fe_int) (fa_nil)))))) (fv 3) (fv 8))
      (fss_one (fs_sub (fe_ix (fv 3) (fv 8)) (fe_ix (fv 6) (fe_int)) (fv 8))))) (fss_nil))
      (fss_cons (fs_set 5 (fe_op f_add (fe_sl (fv 5) (fo_some (fe_int)) (fo_none)) (fe_sl (fv 5) (fo_none) (fo_some (fe_int)))) sc.nd)
      (fss_cons (fs_expr (fe_mt PySem.F.slot_list_append PySem.F.type_list_append m_append (fe_ix (fv 6) (fe_int)) (fa_cons (fe_mt PySem.F.slot_list_pop PySem.F.type_list_pop m_popAt (fe_ix (fv 6) (fe_int)) (fa_cons (fe_int) (fa_nil))) (fa_nil))))
      (fss_cons (fs_if (fb_w (fw_and (fb_cmp f_gt (fe_callB f_len (by rfl) T.b_len (by decide +kernel) (fa_cons (fv 5) (fa_nil))) (fe_int) (nomark _)) (fw_and1 (fb_cmp (f_eq hr.units) (fe_cS h_l_draw (hr.mono (by decide)) (fa_cons (fv 7) (fa_cons (fe_int) (fa_nil)))) (fe_int) (nomark _))))) (fss_cons (fs_set 5 (fe_sl (fv 5) (fo_some (fe_int)) (fo_none)) sc.nd)
      (fss_one (fs_expr (fe_mt PySem.F.slot_list_pop PySem.F.type_list_pop m_popAt (fe_ix (fv 6) (fe_int)) (fa_cons (fe_int) (fa_nil)))))) (fss_nil))
      (fss_cons (fs_if (fb_not (fb_val (fe_cT h_l_right (hr.mono (by decide)) (fa_cons (fv 3) (fa_cons (fv 5) (fa_cons (fv 6) (fa_nil))))))) (fss_one (fs_ret (fe_bl))) (fss_nil))
      (fss_cons (fs_set 10 (fe_trim (fe_cP h_rank_in (hr.mono (by decide)) (fa_cons (fe_callTy (f_listA rfl) (by rfl) T.b_list (by decide +kernel) (fa_cons (fv 3) (fa_nil))) (fa_cons (fe_lst (fa_cons (fe_ix (fv 5) (fe_int)) (fa_nil))) (fa_cons (fe_ix (fv 5) (fe_int)) (fa_nil)))))) sc.nd)
      (fss_one (fs_ret (fe_and (fe_cP h_l_whole (hr.mono (by decide)) (fa_cons (fv 10) (fa_nil))) (fe_one (fe_cmp (f_eq hr.units) (fv 10) (fe_int) (nomark _))))))))))))))))))))))
end Lw
namespace Lw
open PySem PySem.Spec PyProof.Rows L2 FL
theorem draw_ok {p : Nat} {n : Int} {S : Cs} {s : Int × Int} (h : S[p]? = some (srcC s)) (h0 : 0 < n) (h1 : n < 2 ^ 64) : m_l_draw [.own p, ti n] S = some (ti (dR s n), S.set p (srcC (dS s n))) := m_draw_eq p n S s h h0 h1
theorem between_ok {p : Nat} {a b : Int} {S : Cs} {s : Int × Int} (h : S[p]? = some (srcC s)) (h0 : 0 < b - a + 1) (h1 : b - a + 1 < 2 ^ 64) : m_l_between [.own p, ti a, ti b] S = some (ti (a + dR s (b - a + 1)), S.set p (srcC (dS s (b - a + 1)))) := by
  simp [m_l_between, draw_ok h h0 h1]
theorem whole_ok {i : Int} : m_l_whole [ti i] [] = some (tb true, []) := by simp [m_l_whole]
theorem set_get {S : Cs} {p : Nat} {c c' : Cell} (h : S[p]? = some c') : (S.set p c)[p]? = some c := List.getElem?_set_self (List.getElem?_eq_some_iff.mp h).1
theorem app_get {S : Cs} {p : Nat} {c : Cell} {G : Cs} (h : S[p]? = some c) : (S ++ G)[p]? = some c := by
  rw [List.getElem?_append_left (List.getElem?_eq_some_iff.mp h).1]; exact h
theorem set_app {S G : Cs} {p : Nat} {c c' : Cell} (h : S[p]? = some c') : (S ++ G).set p c = S.set p c ++ G := List.set_append_left _ _ (List.getElem?_eq_some_iff.mp h).1
theorem last_get {S : Cs} {c : Cell} : (S ++ [c])[S.length]? = some c := by simp
theorem last_set {S : Cs} {c c' : Cell} : (S ++ [c]).set S.length c' = S ++ [c'] := by simp
theorem append_ok {S : Cs} {p : Nat} {t : T} {ts : List T} (h : S[p]? = some (.lst ts)) (hl : ts.length < 100000) : mAppend (.own p) [t] S = some (.d .non, S.set p (.lst (ts ++ [t]))) := by
  have hs : ts.length < sizeLine := Nat.lt_of_lt_of_le hl (by decide)
  simp [mAppend, ownOf_own h, hs]
theorem levels_ok {p : Nat} {n : Int} {S : Cs} {s : Int × Int} (h : S[p]? = some (srcC s)) (w : WfS S) (h0 : 1 ≤ n) (h1 : n ≤ 1000) :
    ∃ (s' : Int × Int) (ls : List Int), ls.length = n.toNat ∧ m_l_levels [.own p, ti n] S = some (.own S.length, S.set p (srcC s') ++ [.lst (ls.map ti)]) := by
  -- the drawn distance
  have hd := draw_ok (n := 4) (app_get (G := [.lst [ti 0, ti 0, ti 0, ti 999999999000]]) h) (by decide) (by decide)
  have b0 := dR_nn s (n := 4) (by decide)
  have b1 := dR_lt s (n := 4) (by decide)
  obtain ⟨far, hf⟩ : ∃ far : Int, atI [ti 0, ti 0, ti 0, ti 999999999000] (dR s 4) = some (ti far) := by
    rw [atI_ge _ _ b0]
    have : (dR s 4).toNat = 0 ∨ (dR s 4).toNat = 1 ∨ (dR s 4).toNat = 2 ∨ (dR s 4).toNat = 3 := by omega
    rcases this with e | e | e | e <;> rw [e] <;> exact ⟨_, rfl⟩
  generalize dR s 4 = r at hd b0 b1 hf
  have hS2 : (S.set p (srcC (dS s 4)))[p]? = some (srcC (dS s 4)) := set_get h
  -- the loop
  have inr : inR n := ⟨by omega, by omega⟩
  have loop := loop_inv (g := gN 4) (body := cSeq (cSet 5 (cBin oSub (cK (.int 1)) (cCallS m_l_draw [] 2 (aCons (cV 0) (aCons (cK (.int 3)) (aNil))))))
      (cDrop (cMt mAppend (cV 3) (aCons (cBin oAdd (cBin oMul (cV 5) (cV 2)) (cCallS m_l_between [] 3 (aCons (cV 0) (aCons (cBin oSub (cK (.int 0)) (cK (.int 3))) (aCons (cK (.int 5)) (aNil)))))) (aNil))))) (cl := [4, 5]) (gs := [])
    (σ := [some (.own p), some (ti n), some (ti far), some (.own S.length), none, none]) (S := S.set p (srcC (dS s 4)) ++ [.lst [ti 0]])
    (fun i : Int => .one (ti i)) (fun done σ S' => ∃ (s' : Int × Int) (ls : List Int), ls.length = done.length + 1 ∧ σ = [some (.own p), some (ti n), some (ti far), some (.own S.length), none, none] ∧ S' = S.set p (srcC s') ++ [.lst (ls.map ti)])
    (fun _ _ _ _ => trivial) (rangeL 1 n) ?_ ⟨dS s 4, [0], rfl, rfl, rfl⟩
  · obtain ⟨σ', S', e, s', ls, hl, rfl, rfl⟩ := loop
    refine ⟨s', ls, by rw [hl, rangeL_len]; omega, ?_⟩
    have hset : (S ++ [Cell.lst [ti 0, ti 0, ti 0, ti 999999999000]]).set p (srcC (dS s 4)) = S.set p (srcC (dS s 4)) ++ [Cell.lst [ti 0, ti 0, ti 0, ti 999999999000]] := set_app h
    have hg : (S.set p (srcC (dS s 4)) ++ [Cell.lst [ti 0, ti 0, ti 0, ti 999999999000]])[S.length]? = some (Cell.lst [ti 0, ti 0, ti 0, ti 999999999000]) := by
      rw [List.getElem?_append_right (by simp)]; simp
    have ht : trimT S.length (some (ti far, S.set p (srcC (dS s 4)) ++ [Cell.lst [ti 0, ti 0, ti 0, ti 999999999000]])) = some (ti far, S.set p (srcC (dS s 4))) := trimT_s (by simp) (wf_set w rfl)
    have hr : ∀ σ, iRange2 (aCons (cK (.int 1)) (aCons (cV 1) (aNil))) [some (.own p), some (ti n), some (ti far), some (.own S.length), none, none] σ = some (itR 1 n, [], σ) := fun σ => iRange2_s (by simp) (by decide) inr
    simp [m_l_levels, hd, hset, oIx_own hg, hf, ht, hr, itR_enc, e]
  · rintro done x rest σ S' exs ⟨s', ls, hl, rfl, rfl⟩
    have hdl : done.length < 1000 := by
      have := congrArg List.length exs
      rw [rangeL_len, List.length_append, List.length_cons] at this
      omega
    have g1 : ∀ (s' : Int × Int) (ls : List Int), (S.set p (srcC s') ++ [Cell.lst (ls.map ti)])[p]? = some (srcC s') := fun s' ls => app_get (set_get h)
    have g2 : ∀ (s' s2 : Int × Int) (ls : List Int), (S.set p (srcC s') ++ [Cell.lst (ls.map ti)]).set p (srcC s2) = S.set p (srcC s2) ++ [Cell.lst (ls.map ti)] := fun s' s2 ls => by
      rw [set_app (set_get h), List.set_set]
    have g3 : ∀ (s' : Int × Int) (ls : List Int), (S.set p (srcC s') ++ [Cell.lst (ls.map ti)])[S.length]? = some (Cell.lst (ls.map ti)) := fun s' ls => by
      rw [List.getElem?_append_right (by simp)]; simp
    have g4 : ∀ (s' : Int × Int) (ls : List Int) (c : Cell), (S.set p (srcC s') ++ [Cell.lst (ls.map ti)]).set S.length c = S.set p (srcC s') ++ [c] := fun s' ls c => by
      rw [List.set_append_right _ _ (by simp)]; simp
    have c0 := dR_nn s' (n := 3) (by decide)
    have c1 := dR_lt s' (n := 3) (by decide)
    have hm : CMul (1 - dR s' 3) far := .inl ⟨by omega, by omega⟩
    refine ⟨_, _, [some (.own p), some (ti n), some (ti far), some (.own S.length), some (ti x), some (ti (1 - dR s' 3))], _, gN_one, ?_, dS (dS s' 3) 9, ls ++ [(1 - dR s' 3) * far + (-3 + dR (dS s' 3) 9)], by simp [hl], rfl, rfl⟩
    have ha := append_ok (t := ti ((1 - dR s' 3) * far + (-3 + dR (dS s' 3) 9))) (g3 (dS (dS s' 3) 9) ls) (by rw [List.length_map]; omega)
    have d1 := draw_ok (n := 3) (g1 s' ls) (by decide) (by decide)
    have d2 := between_ok (a := -3) (b := 5) (g1 (dS s' 3) ls) (by decide) (by decide)
    simp only [Int.reduceNeg, Int.reduceSub, Int.reduceAdd] at d2
    simp [d1, g2, mtK_s (isLst_own (g3 _ _)), oMul_int hm, d2, ha, g4]
theorem popAt_ok {S : Cs} {p : Nat} {ts : List T} {i : Int} {t : T} (h : S[p]? = some (.lst ts)) (h0 : 0 ≤ i) (h1 : i < ts.length) (ht : ts[i.toNat]? = some t) (hb : ts.length ≤ 100000) : mPopAt (.own p) [ti i] S = some (t, S.set p (.lst (ts.eraseIdx i.toNat))) := by
  have e : seqIndex? i ts.length = some i.toNat := seqIndex_of h0 (by omega)
  have b : -(2 ^ 63) ≤ i ∧ i < 2 ^ 63 := ⟨by omega, by omega⟩
  simp only [mPopAt, ownOf_own h, asI_int, e, b, and_self, if_true, ht, Option.map_some]
theorem toD_own {S : Cs} {p : Nat} {ds : List D} (h : S[p]? = some (.lst (ds.map .d))) : toD dep (.own p) S = some (.lst ds, S.set p (.frz (.lst ds))) := by
  unfold toD
  rw [h]
  show (mapS (toD _) id (ds.map .d) S).bind _ = _
  rw [mapS_d]
  show (if isFrz S[p]? = true then none else some (D.lst ds, S.set p (.frz (.lst ds)))) = _
  rw [h]
  rfl
theorem map_ti (ns : List Int) : ns.map ti = (ns.map D.int).map T.d := by rw [List.map_map]; rfl
end Lw
namespace Lw
open PySem PySem.Spec PyProof.Rows L2 FL
/-- an item by its place -/
def lv (ls : List Int) (i : Int) : Int := ls.getD i.toNat 0
theorem atI_lv {ls : List Int} {i : Int} (h0 : 0 ≤ i) (h1 : i < ls.length) : atI (ls.map ti) i = some (ti (lv ls i)) := by
  have hl : i.toNat < ls.length := by omega
  rw [atI_ge _ _ h0, List.getElem?_map]
  unfold lv
  rw [List.getD_eq_getElem?_getD, List.getElem?_eq_getElem hl]
  rfl
theorem oIx_seq {S : Cs} {x : T} {b : Bool} {ts : List T} {i : Int} (h : seqOf x S = some (b, ts)) : oIx x (ti i) S = (atI ts i).map fun t => (t, S) := by
  unfold oIx; simp [h]
theorem seqG_seqOf {S : Cs} {x : T} {b : Bool} {ts : List T} {gs : Gs} (h : seqG x S = some (b, ts, gs)) : seqOf x S = some (b, ts) := by
  unfold seqG at h
  unfold seqOf
  split at h <;> try (simp_all; done)
  split at h <;> simp_all
def cnt (ls hs : List Int) (node : Int) : Nat := (hs.filter fun h => decide (lv ls node < lv ls h)).length
theorem rank_ok {S : Cs} {x y : T} {b b2 : Bool} {gs : Gs} {ls hs : List Int} {node : Int} (w : WfS S) (hx : seqOf x S = some (b, ls.map ti)) (hy : seqG y S = some (b2, hs.map ti, gs)) (hg : gOk gs S)
    (hh : ∀ h ∈ hs, 0 ≤ h ∧ h < ls.length) (hn : 0 ≤ node ∧ node < ls.length) (hl : hs.length ≤ 1000) : m_rank_in [x, y, ti node] S = some (ti (1 + (cnt ls hs node : Int)), S) := by
  have e1 : oIx x (ti node) S = some (ti (lv ls node), S) := by rw [oIx_seq hx, atI_lv hn.1 hn.2]; rfl
  have e2 : compL (gN 4) (cB (cBin oGt (cBin oIx (cV 0) (cV 4)) (cV 3))) (cV 4) [some x, some y, some (ti node), some (ti (lv ls node)), none] gs (hs.map fun h => .one (ti h)) S = some ((hs.filter fun h => decide (lv ls node < lv ls h)).map ti, S) := by
    refine compL_pure (fun h : Int => .one (ti h)) _ _ hg hs fun h hm => ⟨_, gN_one, ?_, fun _ => by simp⟩
    have e3 : oIx x (ti h) S = some (ti (lv ls h), S) := by rw [oIx_seq hx, atI_lv (hh h hm).1 (hh h hm).2]; rfl
    simp [e3]
  have hz : ((hs.filter fun h => decide (lv ls node < lv ls h)).map ti).length ≤ 100000 := by
    rw [List.length_map]
    exact Nat.le_trans (List.length_filter_le _ _) (by omega)
  have e4 : (hs.map ti).map Itm.one = hs.map fun h => .one (ti h) := by rw [List.map_map]; rfl
  have e5 := compK2_s (S := S) hz
  have e6 : bLen [.own S.length] (S ++ [.lst ((hs.filter fun h => decide (lv ls node < lv ls h)).map ti)]) = some (ti ((cnt ls hs node : Nat) : Int), S ++ [.lst ((hs.filter fun h => decide (lv ls node < lv ls h)).map ti)]) := by
    rw [bLen_own last_get, List.length_map]; rfl
  have e7 := fun d => trimT_s (d := d) (S' := S) (G := [.lst ((hs.filter fun h => decide (lv ls node < lv ls h)).map ti)]) rfl w
  simp [m_rank_in, e1, hy, e4, e2, e5, e6, e7]
theorem due_ok {S : Cs} {x y : T} {b b2 : Bool} {gs : Gs} {ls hs : List Int} {node : Int} (hx : seqOf x S = some (b, ls.map ti)) (hy : seqG y S = some (b2, hs.map ti, gs)) (hg : gOk gs S)
    (hh : ∀ h ∈ hs, 0 ≤ h ∧ h < ls.length) (hn : 0 ≤ node ∧ node < ls.length) : m_l_due [x, y, ti node] S = some (ti (1 + (cnt ls hs node : Int)), S) := by
  have e4 : (hs.map ti).map Itm.one = hs.map fun h => .one (ti h) := by rw [List.map_map]; rfl
  have en : oIx x (ti node) S = some (ti (lv ls node), S) := by rw [oIx_seq hx, atI_lv hn.1 hn.2]; rfl
  obtain ⟨σ', S', e, rfl, rfl⟩ := loop_inv (g := gN 4) (body := cIfS (cB (cBin oGt (cBin oIx (cV 0) (cV 4)) (cBin oIx (cV 0) (cV 2)))) (cSet 3 (cBin oAdd (cV 3) (cK (.int 1)))) (cNx)) (cl := [4]) (gs := gs) (σ := [some x, some y, some (ti node), some (ti 0), none]) (S := S)
    (fun h : Int => .one (ti h)) (fun done σ S' => S' = S ∧ σ = [some x, some y, some (ti node), some (ti (cnt ls done node : Int)), none]) (fun _ _ _ z => by rw [z.1]; exact hg) hs (by
      rintro done h rest σ S' exs ⟨rfl, rfl⟩
      have hm : h ∈ hs := by rw [exs]; simp
      have e3 : oIx x (ti h) S' = some (ti (lv ls h), S') := by rw [oIx_seq hx, atI_lv (hh h hm).1 (hh h hm).2]; rfl
      by_cases hc : lv ls node < lv ls h
      · refine ⟨_, _, [some x, some y, some (ti node), some (ti ((cnt ls done node : Int) + 1)), some (ti h)], S', gN_one, by simp [e3, en, hc], rfl, ?_⟩
        simp [cnt, hc]
      · refine ⟨_, _, [some x, some y, some (ti node), some (ti (cnt ls done node : Int)), some (ti h)], S', gN_one, by simp [e3, en, hc], rfl, ?_⟩
        simp [cnt, hc]) ⟨rfl, by simp [cnt]⟩
  simp [m_l_due, hy, e4, e]
theorem bListA_seq {S : Cs} {x : T} {b : Bool} {ts : List T} (h : seqOf x S = some (b, ts)) : bOr bList bListR [x] S = some (.own S.length, S ++ [.lst ts]) := by
  have e : bList [x] S = some (.own S.length, S ++ [.lst ts]) := by
    show (seqOf x S).map _ = _
    rw [h]; rfl
  unfold bOr
  rw [e]
theorem right_ok {S : Cs} {x y z z0 z1 : T} {b b0 b1 b2 : Bool} {gs gs1 : Gs} {ls hs : List Int} (w : WfS S) (hx : seqOf x S = some (b, ls.map ti)) (hy : seqG y S = some (b2, hs.map ti, gs)) (hg : gOk gs S)
    (z0' : oIx z (ti 0) S = some (z0, S)) (z1' : oIx z (ti 1) S = some (z1, S)) (hz0 : seqOf z0 S = some (b0, ls.map ti)) (hz1 : seqG z1 S = some (b1, hs.map ti, gs1)) (hg1 : gOk gs1 S)
    (px : ∀ G : Cs, pyT dep (S ++ G) x = some (.list (ls.map PyData.int))) (py : ∀ G : Cs, pyT dep (S ++ G) y = some (.list (hs.map PyData.int)))
    (hh : ∀ h ∈ hs, 0 ≤ h ∧ h < ls.length) (hl : hs.length ≤ 1000) : m_l_right [x, y, z] S = some (tb true, S) := by
  have e4 : (hs.map ti).map Itm.one = hs.map fun h => .one (ti h) := by rw [List.map_map]; rfl
  obtain ⟨σ', S', e, rfl, rfl⟩ := loop_inv (g := gN 3) (body := cSeq (cSet 4 (cCallT m_rank_in [] 3 (aCons (cBin oIx (cV 2) (cK (.int 0))) (aCons (cBin oIx (cV 2) (cK (.int 1))) (aCons (cV 3) (aNil))))))
      (cIfS (cOr (cNot (cB (cCallP m_l_whole [] 1 (aCons (cV 4) (aNil))))) (cB (cBin oNe (cV 4) (cCallT m_l_due [] 3 (aCons (cV 0) (aCons (cV 1) (aCons (cV 3) (aNil)))))))) (cRet (cK (.bl false))) (cNx))) (cl := [3, 4]) (gs := gs) (σ := [some x, some y, some z, none, none]) (S := S)
    (fun h : Int => .one (ti h)) (fun done σ S' => S' = S ∧ σ = [some x, some y, some z, none, none]) (fun _ _ _ z => by rw [z.1]; exact hg) hs (by
      rintro done h rest σ S' exs ⟨rfl, rfl⟩
      have hm : h ∈ hs := by rw [exs]; simp
      have r1 := rank_ok w hz0 hz1 hg1 hh (hh h hm) hl
      have r2 := due_ok hx hy hg hh (hh h hm)
      have t1 := callTK_s (n := 3) (S' := S') (G := []) rfl (by rw [List.append_nil]; exact r1) rfl w
      have t2 := callTK_s (n := 3) (S' := S') (G := []) rfl (by rw [List.append_nil]; exact r2) rfl w
      refine ⟨_, _, [some x, some y, some z, some (ti h), some (ti (1 + (cnt ls hs h : Int)))], S', gN_one, by simp [z0', z1', t1, t2, whole_ok], rfl, rfl⟩) ⟨rfl, rfl⟩
  have l0 := bListA_seq hz0
  have l1 := bListA_seq (seqG_seqOf hz1)
  have q0 : oEq (.own S'.length) x (S' ++ [.lst (ls.map ti)]) = some (tb true, S' ++ [.lst (ls.map ti)]) := by
    have := oEq_of (eqT_ints (pyT_own (S := S' ++ [.lst (ls.map ti)]) (p := S'.length) last_get) (px [.lst (ls.map ti)]))
    simpa using this
  have q1 : oEq (.own S'.length) y (S' ++ [.lst (hs.map ti)]) = some (tb true, S' ++ [.lst (hs.map ti)]) := by
    have := oEq_of (eqT_ints (pyT_own (S := S' ++ [.lst (hs.map ti)]) (p := S'.length) last_get) (py [.lst (hs.map ti)]))
    simpa using this
  have tr := fun d G => trimT_s (d := d) (S' := S') (G := G) rfl w
  have tr0 := fun d => trimT_0 (d := d) (S' := S') rfl w
  simp [m_l_right, hy, e4, e, z0', z1', l0, l1, q0, q1, tr, tr0]
theorem erase_map {α β : Type} (f : α → β) : ∀ (l : List α) (n : Nat), (l.map f).eraseIdx n = (l.eraseIdx n).map f
  | [], _ => rfl
  | _ :: _, 0 => rfl
  | a :: l, n + 1 => congrArg (f a :: ·) (erase_map f l n)
theorem list_range_ok {S : Cs} {n : Int} (h : inR n) (h2 : n ≤ 2 ^ 24) : bOr bList bListR [.d (.rng 0 n)] S = some (.own S.length, S ++ [.lst ((rangeL 0 n).map ti)]) := by
  show bListR [.d (.rng 0 n)] S = _
  show (if inR 0 ∧ inR n ∧ n - 0 ≤ 2 ^ 24 then _ else _) = _
  rw [if_pos ⟨by decide, h, by omega⟩]
theorem picked_ok {p : Nat} {n c : Int} {S : Cs} {s : Int × Int} (h : S[p]? = some (srcC s)) (w : WfS S) (h0 : 1 ≤ n) (h1 : n ≤ 1000) (c0 : 1 ≤ c) :
    ∃ (s' : Int × Int) (hs : List Int), hs ≠ [] ∧ hs.length ≤ 1000 ∧ (∀ x ∈ hs, 0 ≤ x ∧ x < n) ∧ callTK m_l_picked 3 (some ([.own p, ti n, ti c], S)) = some (.d (.lst (hs.map D.int)), S.set p (srcC s')) := by
  have inr : inR n := ⟨by omega, by omega⟩
  have er : bOr bList bListR [.d (.rng 0 n)] S = some (.own S.length, S ++ [.lst ((rangeL 0 n).map ti)]) := list_range_ok inr (by omega)
  have em : bMin2 [ti n, ti c] (S ++ [.lst ((rangeL 0 n).map ti), .lst []]) = some (ti (if c < n then c else n), S ++ [.lst ((rangeL 0 n).map ti), .lst []]) := rfl
  generalize hk : (if c < n then c else n) = k at em
  have k0 : 1 ≤ k ∧ k ≤ n := by rw [← hk]; split <;> omega
  have St : ∀ (s : Int × Int) (l q : List Int) , (S.set p (srcC s) ++ [Cell.lst (l.map ti), Cell.lst (q.map ti)])[p]? = some (srcC s) := fun s l q => app_get (set_get h)
  have g1 : ∀ (s s2 : Int × Int) (l q : List Int), (S.set p (srcC s) ++ [Cell.lst (l.map ti), Cell.lst (q.map ti)]).set p (srcC s2) = S.set p (srcC s2) ++ [Cell.lst (l.map ti), Cell.lst (q.map ti)] := fun s s2 l q => by
    rw [set_app (set_get h), List.set_set]
  have g2 : ∀ (s : Int × Int) (l q : List Int), (S.set p (srcC s) ++ [Cell.lst (l.map ti), Cell.lst (q.map ti)])[S.length]? = some (.lst (l.map ti)) := fun s l q => by
    rw [List.getElem?_append_right (by simp)]; simp
  have g3 : ∀ (s : Int × Int) (l q : List Int), (S.set p (srcC s) ++ [Cell.lst (l.map ti), Cell.lst (q.map ti)])[S.length + 1]? = some (.lst (q.map ti)) := fun s l q => by
    rw [List.getElem?_append_right (by simp)]; simp
  have g4 : ∀ (s : Int × Int) (l q : List Int) (c : Cell), (S.set p (srcC s) ++ [Cell.lst (l.map ti), Cell.lst (q.map ti)]).set S.length c = S.set p (srcC s) ++ [c, Cell.lst (q.map ti)] := fun s l q c => by
    rw [List.set_append_right _ _ (by simp)]; simp
  have g5 : ∀ (s : Int × Int) (l q : List Int) (c : Cell), (S.set p (srcC s) ++ [Cell.lst (l.map ti), Cell.lst (q.map ti)]).set (S.length + 1) c = S.set p (srcC s) ++ [Cell.lst (l.map ti), c] := fun s l q c => by
    rw [List.set_append_right _ _ (by simp)]; simp
  have s0 : S.set p (srcC s) = S := by
    apply List.ext_getElem?
    intro i
    by_cases hi : p = i
    · subst hi; rw [set_get h, h]
    · rw [List.getElem?_set_ne hi]
  have loop := loop_inv (g := gN 5) (body := cDrop (cMt mAppend (cV 4) (aCons (cMt mPopAt (cV 3) (aCons (cCallS m_l_draw [] 2 (aCons (cV 0) (aCons (cCB bLen (aCons (cV 3) (aNil))) (aNil)))) (aNil))) (aNil)))) (cl := [5]) (gs := [])
    (σ := [some (.own p), some (ti n), some (ti c), some (.own S.length), some (.own (S.length + 1)), none]) (S := S ++ [.lst ((rangeL 0 n).map ti), .lst []])
    (fun i : Int => .one (ti i)) (fun done σ S' => ∃ (s' : Int × Int) (l q : List Int), l.length + done.length = n.toNat ∧ q.length = done.length ∧ (∀ x, x ∈ l ∨ x ∈ q → 0 ≤ x ∧ x < n) ∧ σ = [some (.own p), some (ti n), some (ti c), some (.own S.length), some (.own (S.length + 1)), none] ∧ S' = S.set p (srcC s') ++ [.lst (l.map ti), .lst (q.map ti)])
    (fun _ _ _ _ => trivial) (rangeL 0 k) ?_ ⟨s, rangeL 0 n, [], by rw [rangeL_len, List.length_nil]; omega, rfl, fun x hx => hx.elim mem_rangeL (fun z => by simp at z), rfl, by rw [s0]; rfl⟩
  · obtain ⟨σ', S', e, s', l, q, hl, hq, hb, rfl, rfl⟩ := loop
    have hql : q.length = k.toNat := by rw [hq, rangeL_len]; omega
    refine ⟨s', q, fun z => ?_, by omega, fun x hx => hb x (.inr hx), ?_⟩
    · rw [z] at hql; simp at hql; omega
    · have hr : ∀ σ S1, S1 = S ++ [Cell.lst ((rangeL 0 n).map ti), Cell.lst []] → iRange1 (aCons (cCB bMin2 (aCons (cV 1) (aCons (cV 2) (aNil)))) (aNil)) (some (.own p) :: some (ti n) :: some (ti c) :: σ) S1 = some (itR 0 k, [], S1) := fun σ S1 z => iRange1_s (by subst z; simp [em]) ⟨by omega, by omega⟩
      have hm : m_l_picked [.own p, ti n, ti c] S = some (.own (S.length + 1), S.set p (srcC s') ++ [Cell.lst (l.map ti), Cell.lst (q.map ti)]) := by
        have er1 : bRange1 [ti n] S = some (.d (.rng 0 n), S) := rfl
        simp [m_l_picked, er1, er, hr, itR_enc, e]
      refine callTK_l (G := [Cell.lst (l.map ti), .frz (.lst (q.map D.int))]) rfl hm (by omega) ?_ (by simp) (wf_set w rfl)
      have gq := g3 s' l q
      rw [map_ti q] at gq
      rw [show (S.set p (srcC s') ++ [Cell.lst (l.map ti), Cell.lst (q.map ti)]) = (S.set p (srcC s') ++ [Cell.lst (l.map ti), Cell.lst ((q.map D.int).map .d)]) by rw [← map_ti]]
      rw [toD_own gq]
      rw [← map_ti, g5]
  · rintro done x rest σ S' exs ⟨s', l, q, hl, hq, hb, rfl, rfl⟩
    have hdl : done.length < k.toNat := by
      have := congrArg List.length exs
      rw [rangeL_len, List.length_append, List.length_cons] at this
      omega
    have hlp : 0 < l.length := by omega
    have lp : (0 : Int) < (l.length : Int) := by omega
    have d0 := draw_ok (n := (l.length : Int)) (St s' l q) lp (by omega)
    have b0 := dR_nn s' lp
    have b1 := dR_lt s' lp
    have ln := bLen_own (g2 s' l q)
    rw [List.length_map] at ln
    generalize hr : dR s' (l.length : Int) = r at d0 b0 b1
    have hrl : r.toNat < l.length := by omega
    have pp := popAt_ok (t := ti l[r.toNat]) (g2 (dS s' (l.length : Int)) l q) b0 (by rw [List.length_map]; exact b1) (by rw [List.getElem?_map, List.getElem?_eq_getElem hrl]; rfl) (by rw [List.length_map]; omega)
    have ee : (l.map ti).eraseIdx r.toNat = (l.eraseIdx r.toNat).map ti := erase_map _ _ _
    rw [g4, ee] at pp
    have aa := append_ok (t := ti l[r.toNat]) (g3 (dS s' (l.length : Int)) (l.eraseIdx r.toNat) q) (by rw [List.length_map]; omega)
    have eq : q.map ti ++ [ti l[r.toNat]] = (q ++ [l[r.toNat]]).map ti := by simp
    rw [g5, eq] at aa
    refine ⟨_, _, [some (.own p), some (ti n), some (ti c), some (.own S.length), some (.own (S.length + 1)), some (ti x)], _, gN_one, ?_, dS s' (l.length : Int), l.eraseIdx r.toNat, q ++ [l[r.toNat]], ?_, ?_, ?_, rfl, rfl⟩
    · simp [mtK_s (isLst_own (g3 s' l q)), mtK_s (isLst_own (g2 s' l q)), ln, d0, g1, pp, aa]
    · rw [List.length_eraseIdx_of_lt hrl, List.length_append, List.length_singleton]; omega
    · simp [hq]
    · intro y hy
      rcases hy with hy | hy
      · exact hb y (.inl (List.mem_of_mem_eraseIdx hy))
      · rcases List.mem_append.mp hy with z | z
        · exact hb y (.inr z)
        · rw [List.mem_singleton.mp z]; exact hb _ (.inl (List.getElem_mem hrl))
end Lw
namespace Lw
open PySem PySem.Spec PyProof.Rows L2 FL
theorem source_ok (ns : List Int) (k : Nat) : ∃ s, m_l_source [.d (.scr ns), ti (k : Int)] [] = some (.own 0, [srcC s]) := m_source_ok ns k
theorem callU_levels {p : Nat} {n : Int} {S : Cs} {s : Int × Int} (h : S[p]? = some (srcC s)) (w : WfS S) (h0 : 1 ≤ n) (h1 : n ≤ 1000) :
    ∃ (s' : Int × Int) (ls : List Int), ls.length = n.toNat ∧ callUK m_l_levels 2 (some ([.own p, ti n], S)) = some (.own S.length, S.set p (srcC s') ++ [.lst (ls.map ti)]) := by
  obtain ⟨s', ls, hl, e⟩ := levels_ok h w h0 h1
  refine ⟨s', ls, hl, ?_⟩
  have := callUK_s (n := 2) (ds := ls.map D.int) (S' := S.set p (srcC s')) (G := [.lst (ls.map ti)]) rfl e (Nat.le_refl _) (by rw [List.getElem?_append_right (by simp), ← map_ti]; simp) (by simp) (wf_set w rfl)
  rw [← map_ti] at this
  exact this
theorem bTuple_own {S : Cs} {p : Nat} {ds : List D} (h : S[p]? = some (.lst (ds.map .d))) : bTuple [.own p] S = some (.d (.tup ds), S) := by
  unfold bTuple b1
  dsimp only
  rw [seqOf_own h]
  show (toDs (ds.map .d) S).map _ = _
  rw [toDs_d]; rfl
theorem bTuple_lst {S : Cs} {ds : List D} : bTuple [.d (.lst ds)] S = some (.d (.tup ds), S) := by
  show (toDs (ds.map .d) S).map _ = _
  rw [toDs_d]; rfl
theorem pyT_app {S : Cs} {p : Nat} {ls : List Int} (h : S[p]? = some (.lst (ls.map ti))) (G : Cs) : pyT dep (S ++ G) (.own p) = some (.list (ls.map PyData.int)) := pyT_own (app_get h)
/-- the end of the law, from any cells -/
theorem law_end {S : Cs} {k : Nat} {ls hs : List Int} {o1 o2 o4 o7 o8 o9 : Option T} (w : WfS S) (h1 : S[1]? = some (.lst (ls.map ti))) (hk : S[k]? = some (.lst (hs.map ti))) (h5 : S[5]? = some (.lst [.own 3, .own 4])) (h3 : S[3]? = some (.lst (ls.map ti))) (h4 : S[4]? = some (.lst (hs.map ti)))
    (hne : hs ≠ []) (hl : hs.length ≤ 1000) (hh : ∀ h ∈ hs, 0 ≤ h ∧ h < ls.length) (ns : List Int) :
    ∃ S', fnK (cSeq (cIfS (cNot (cB (cCallT m_l_right [] 3 (aCons (cV 3) (aCons (cV 5) (aCons (cV 6) (aNil))))))) (cRet (cK (.bl false))) (cNx))
      (cSeq (cSet 10 (cTrim (cCallP m_rank_in [] 3 (aCons (cCB bListA (aCons (cV 3) (aNil))) (aCons (cLst (aCons (cBin oIx (cV 5) (cK (.int 0))) (aNil))) (aCons (cBin oIx (cV 5) (cK (.int 0))) (aNil)))))))
      (cRet (cAndV (cCallP m_l_whole [] 1 (aCons (cV 10) (aNil))) (cBin oEq (cV 10) (cK (.int 1)))))) [some (.d (.scr ns)), o1, o2, some (.own 1), o4, some (.own k), some (.own 5), o7, o8, o9, none] S) = some (.d (.bl true), S') := by
  have z0 : oIx (.own 5) (ti 0) S = some (.own 3, S) := by rw [oIx_own h5, atI_0]; rfl
  have z1 : oIx (.own 5) (ti 1) S = some (.own 4, S) := by rw [oIx_own h5, atI_1]; rfl
  have rt := right_ok (x := .own 1) (y := .own k) (z := .own 5) w (seqOf_own h1) (seqG_own hk) ⟨hk, trivial⟩ z0 z1 (seqOf_own h3) (seqG_own h4) ⟨h4, trivial⟩ (pyT_app h1) (pyT_app hk) hh hl
  have ct := callTK_s (n := 3) (S' := S) (G := []) rfl (by rw [List.append_nil]; exact rt) rfl w
  refine run_nx (σ' := [some (.d (.scr ns)), o1, o2, some (.own 1), o4, some (.own k), some (.own 5), o7, o8, o9, none]) (S' := S) (by simp [ct]) ?_
  obtain ⟨h, t, rfl⟩ : ∃ h t, hs = h :: t := by
    cases hs with
    | nil => exact absurd rfl hne
    | cons h t => exact ⟨h, t, rfl⟩
  have hm := hh h List.mem_cons_self
  have i0 : ∀ G : Cs, oIx (.own k) (ti 0) (S ++ G) = some (ti h, S ++ G) := fun G => by rw [oIx_own (app_get hk), atI_0]; rfl
  have l0 := bListA_seq (seqOf_own h1)
  have td : toDs [.own S.length, .own (S.length + 1), ti h] (S ++ [.lst (ls.map ti), .lst [ti h]]) = some ([.lst (ls.map D.int), .lst [.int h], .int h], S ++ [.frz (.lst (ls.map D.int)), .frz (.lst [.int h])]) := by
    have e1 : (S ++ [Cell.lst (ls.map ti), .lst [ti h]])[S.length]? = some (.lst ((ls.map D.int).map .d)) := by rw [← map_ti]; simp
    have e2 : (S ++ [Cell.frz (.lst (ls.map D.int)), .lst [ti h]])[S.length + 1]? = some (.lst ([D.int h].map .d)) := by
      rw [List.getElem?_append_right (by omega)]; simp
    show ((toD dep (.own S.length) _).bind fun p => (mapS (toD dep) id [.own (S.length + 1), ti h] p.2).map fun q => (p.1 :: q.1, q.2)) = _
    rw [toD_own e1]
    have e3 : (S ++ [Cell.lst (ls.map ti), .lst [ti h]]).set S.length (.frz (.lst (ls.map D.int))) = S ++ [Cell.frz (.lst (ls.map D.int)), .lst [ti h]] := by
      rw [List.set_append_right _ _ (Nat.le_refl _)]; simp
    rw [e3]
    show (((toD dep (.own (S.length + 1)) _).bind fun p => (mapS (toD dep) id [ti h] p.2).map fun q => (p.1 :: q.1, q.2))).map _ = _
    rw [toD_own e2]
    have e4 : (S ++ [Cell.frz (.lst (ls.map D.int)), .lst [ti h]]).set (S.length + 1) (.frz (.lst [D.int h])) = S ++ [Cell.frz (.lst (ls.map D.int)), .frz (.lst [D.int h])] := by
      rw [List.set_append_right _ _ (by omega)]; simp
    rw [e4]
    rfl
  have rk := rank_ok (S := []) (x := .d (.lst (ls.map D.int))) (y := .d (.lst [.int h])) (ls := ls) (hs := [h]) (node := h) (gs := []) wf_nil (by rw [seqOf_lst, ← map_ti]) (by rw [seqG_lst]; rfl) trivial (fun x hx => by rw [List.mem_singleton.mp hx]; exact hm) hm (by simp)
  have c0 : cnt ls [h] h = 0 := by simp [cnt]
  rw [c0] at rk
  have tr := fun d => trimT_s (d := d) (S' := S) (G := [.frz (.lst (ls.map D.int)), .frz (.lst [.int h])]) rfl w
  refine run_nx (σ' := [some (.d (.scr ns)), o1, o2, some (.own 1), o4, some (.own k), some (.own 5), o7, o8, o9, some (ti 1)]) (S' := S) (by
    simp at rk i0
    simp [l0, i0, td, rk, tr]) ?_
  exact ⟨S, by simp [whole_ok]⟩
theorem cSl_own {fe : EF} {lo hi : OFn} {σ : Sg} {S : Cs} {x : T} {ts : List T} {a b : Option Int} (h1 : fe σ S = some (x, S)) (h2 : lo σ S = some (a, S)) (h3 : hi σ S = some (b, S)) (h4 : seqOf x S = some (false, ts)) : cSl fe lo hi σ S = some (.own S.length, S ++ [.lst (cutG ts a b)]) := by
  unfold cSl
  simp [h1, h2, h3, h4]
theorem cut_tail {α : Type} (x : α) (t : List α) : cutG (x :: t) (some 1) none = t := by
  unfold cutG HT.sIx
  simp
  try (rw [Nat.min_eq_left (by omega)])
  try simp
theorem cut_head {α : Type} (x : α) (t : List α) : cutG (x :: t) none (some 1) = [x] := by
  unfold cutG HT.sIx
  simp
  try (rw [Nat.min_eq_left (by omega)])
  try simp
theorem lstOf_own {S : Cs} {p : Nat} {ts : List T} (h : S[p]? = some (.lst ts)) : lstOf (.own p) S = some ts := by
  unfold lstOf deref; simp [h]
theorem oAdd_own {S : Cs} {p q : Nat} {a b : List T} (h1 : S[p]? = some (.lst a)) (h2 : S[q]? = some (.lst b)) (hl : a.length + b.length ≤ 100000) : oOr oAddI (oOr oCat (oOr oCatT oCatS)) (.own p) (.own q) S = some (.own S.length, S ++ [.lst (a ++ b)]) := by
  have e : oCat (.own p) (.own q) S = some (.own S.length, S ++ [.lst (a ++ b)]) := by
    unfold oCat
    simp [lstOf_own h1, lstOf_own h2, le_size hl]
  have e0 : oAddI (.own p) (.own q) S = none := rfl
  simp only [oOr, e0, e]
theorem turn_ok {S : Cs} {σ : Sg} {a : T} {r : List T} (h6 : σ[6]? = some (some (.own 5))) (h5 : S[5]? = some (.lst [.own 3, .own 4])) (h4 : S[4]? = some (.lst (a :: r))) (hl : r.length ≤ 1000) :
    cDrop (cMt mAppend (cBin oIx (cV 6) (cK (.int 1))) (aCons (cMt mPopAt (cBin oIx (cV 6) (cK (.int 1))) (aCons (cK (.int 0)) (aNil))) (aNil))) σ S = some (.nx, σ, S.set 4 (.lst (r ++ [a]))) := by
  have i1 : oIx (.own 5) (ti 1) S = some (.own 4, S) := by rw [oIx_own h5, atI_1]; rfl
  have il := isLst_own h4
  have pa := popAt_ok (i := 0) (t := a) h4 (by decide) (by simp <;> omega) rfl (by simp <;> omega)
  have e : (a :: r).eraseIdx (Int.toNat 0) = r := rfl
  rw [e] at pa
  have ap := append_ok (t := a) (set_get (c := .lst r) h4) (by omega)
  rw [List.set_set] at ap
  simp [h6, i1, mtK_s il, pa, ap]
theorem pop_ok {S : Cs} {σ : Sg} {a : T} {r : List T} (h6 : σ[6]? = some (some (.own 5))) (h5 : S[5]? = some (.lst [.own 3, .own 4])) (h4 : S[4]? = some (.lst (a :: r))) (hl : r.length ≤ 1000) :
    cDrop (cMt mPopAt (cBin oIx (cV 6) (cK (.int 1))) (aCons (cK (.int 0)) (aNil))) σ S = some (.nx, σ, S.set 4 (.lst r)) := by
  have i1 : oIx (.own 5) (ti 1) S = some (.own 4, S) := by rw [oIx_own h5, atI_1]; rfl
  have il := isLst_own h4
  have pa := popAt_ok (i := 0) (t := a) h4 (by decide) (by simp <;> omega) rfl (by simp <;> omega)
  have e : (a :: r).eraseIdx (Int.toNat 0) = r := rfl
  rw [e] at pa
  simp [h6, i1, mtK_s il, pa]
theorem shrink {S : Cs} {ls : List Int} {a : Int} {r : List Int} {s : Int × Int} {o0 o1 o2 o4 o8 o9 : Option T} (w : WfS S) (hS : S.length = 10) (h1 : S[1]? = some (.lst (ls.map ti))) (h3 : S[3]? = some (.lst (ls.map ti))) (h4 : S[4]? = some (.lst ((a :: r).map ti))) (h5 : S[5]? = some (.lst [.own 3, .own 4])) (h6 : S[6]? = some (srcC s)) (h9 : S[9]? = some (.lst ((a :: r).map ti))) (hl : r.length ≤ 1000) :
    ∃ (k : Nat) (S' : Cs) (hs : List Int), cIfS (cAnd (cB (cBin oGt (cCB bLen (aCons (cV 5) (aNil))) (cK (.int 1)))) (cB (cBin oEq (cCallS m_l_draw [] 2 (aCons (cV 7) (aCons (cK (.int 2)) (aNil)))) (cK (.int 1))))) (cSeq (cSet 5 (cSl (cV 5) (partI (cK (.int 1))) (noPart)))
      (cDrop (cMt mPopAt (cBin oIx (cV 6) (cK (.int 1))) (aCons (cK (.int 0)) (aNil))))) (cNx) [o0, o1, o2, some (.own 1), o4, some (.own 9), some (.own 5), some (.own 6), o8, o9, none] S = some (.nx, [o0, o1, o2, some (.own 1), o4, some (.own k), some (.own 5), some (.own 6), o8, o9, none], S') ∧
      hs ≠ [] ∧ (∀ h ∈ hs, h ∈ a :: r) ∧ hs.length ≤ (a :: r).length ∧ WfS S' ∧ S'[1]? = some (.lst (ls.map ti)) ∧ S'[3]? = some (.lst (ls.map ti)) ∧ S'[4]? = some (.lst (hs.map ti)) ∧ S'[5]? = some (.lst [.own 3, .own 4]) ∧ S'[k]? = some (.lst (hs.map ti)) := by
  have bl := bLen_own h9
  have dq := draw_ok (n := 2) h6 (by decide) (by decide)
  generalize dR s 2 = r6 at dq
  generalize dS s 2 = s5 at dq
  by_cases c1 : r = []
  · subst c1
    exact ⟨9, S, [a], by simp at bl; simp [bl], by simp, fun _ h => h, Nat.le_refl _, w, h1, h3, h4, h5, h9⟩
  have lp : 0 < r.length := List.length_pos_iff.mpr c1
  have w2 : WfS (S.set 6 (srcC s5)) := wf_set w rfl
  by_cases c2 : r6 = 1
  · have g9 : (S.set 6 (srcC s5))[9]? = some (.lst ((a :: r).map ti)) := by rw [List.getElem?_set_ne (by decide)]; exact h9
    have sl := cSl_own (fe := cV 5) (lo := partI (cK (.int 1))) (hi := noPart) (σ := [o0, o1, o2, some (.own 1), o4, some (.own 9), some (.own 5), some (.own 6), o8, o9, none]) (S := S.set 6 (srcC s5)) (x := .own 9) (a := some 1) (b := none) (ts := ti a :: r.map ti) rfl rfl rfl (seqOf_own g9)
    rw [cut_tail] at sl
    have q4 : (S.set 6 (srcC s5) ++ [Cell.lst (r.map ti)])[4]? = some (.lst (ti a :: r.map ti)) := app_get (by rw [List.getElem?_set_ne (by decide)]; exact h4)
    have q5 : (S.set 6 (srcC s5) ++ [Cell.lst (r.map ti)])[5]? = some (.lst [.own 3, .own 4]) := app_get (by rw [List.getElem?_set_ne (by decide)]; exact h5)
    have po := pop_ok (σ := [o0, o1, o2, some (.own 1), o4, some (.own S.length), some (.own 5), some (.own 6), o8, o9, none]) rfl q5 q4 (by rw [List.length_map]; exact hl)
    refine ⟨S.length, (S.set 6 (srcC s5) ++ [Cell.lst (r.map ti)]).set 4 (.lst (r.map ti)), r, ?_, c1, fun h hm => List.mem_cons_of_mem _ hm, by simp, wf_set (wf_app w2 cb_ti) cb_ti, ?_, ?_, ?_, ?_, ?_⟩
    · have lp' : (1 : Int) < (r.length : Int) + 1 := by omega
      simp at bl dq sl po
      simp [bl, dq, sl, po, lp', c2]
    · rw [List.getElem?_set_ne (by decide)]; exact app_get (by rw [List.getElem?_set_ne (by decide)]; exact h1)
    · rw [List.getElem?_set_ne (by decide)]; exact app_get (by rw [List.getElem?_set_ne (by decide)]; exact h3)
    · exact set_get q4
    · rw [List.getElem?_set_ne (by decide)]; exact q5
    · rw [List.getElem?_set_ne (by omega)]
      have : (S.set 6 (srcC s5)).length = S.length := List.length_set
      rw [← this]; exact last_get
  · refine ⟨9, S.set 6 (srcC s5), a :: r, ?_, by simp, fun _ h => h, Nat.le_refl _, w2, ?_, ?_, ?_, ?_, ?_⟩
    · have lp' : (1 : Int) < (r.length : Int) + 1 := by omega
      simp at bl
      simp [bl, dq, lp', c2]
    all_goals (rw [List.getElem?_set_ne (by decide)]; assumption)
theorem law_true (ns : List Int) (h : ns.length ≤ 63) : ∃ S', m_law [.d (.scr ns)] [] = some (.d (.bl true), S') := by
  obtain ⟨s0, hs0⟩ : ∃ s, m_l_source [.d (.scr ns), ti 0] [] = some (.own 0, [srcC s]) := source_ok ns 0
  obtain ⟨s1, hs1⟩ : ∃ s, m_l_source [.d (.scr ns), ti 1] [] = some (.own 0, [srcC s]) := source_ok ns 1
  obtain ⟨s2, hs2⟩ : ∃ s, m_l_source [.d (.scr ns), ti 2] [] = some (.own 0, [srcC s]) := source_ok ns 2
  show ∃ S', fnK (cSeq _ _ [some (.d (.scr ns)), none, none, none, none, none, none, none, none, none, none] []) = _
  refine run_nx (σ' := [some (.d (.scr ns)), some (.own 0), none, none, none, none, none, none, none, none, none]) (S' := [srcC s0]) (by simp [hs0, callN3_src]) ?_
  have d1 := draw_ok (p := 0) (n := 8) (S := [srcC s0]) (s := s0) rfl (by decide) (by decide)
  have a0 := dR_nn s0 (n := 8) (by decide)
  have a1 := dR_lt s0 (n := 8) (by decide)
  generalize dR s0 8 = r0 at d1 a0 a1
  generalize dS s0 8 = s0' at d1
  refine run_nx (σ' := [some (.d (.scr ns)), some (.own 0), some (ti (1 + r0)), none, none, none, none, none, none, none, none]) (S' := [srcC s0']) (by simp [d1]) ?_
  have d2 := draw_ok (p := 0) (n := 8) (S := [srcC s0']) (s := s0') rfl (by decide) (by decide)
  generalize dR s0' 8 = r1 at d2
  generalize dS s0' 8 = s0 at d2
  obtain ⟨n, n0, n1, hn⟩ : ∃ n : Int, 1 ≤ n ∧ n ≤ 16 ∧ (if r1 = 0 then 16 else 1 + r0) = n := ⟨_, by split <;> omega, by split <;> omega, rfl⟩
  refine run_nx (σ' := [some (.d (.scr ns)), some (.own 0), some (ti n), none, none, none, none, none, none, none, none]) (S' := [srcC s0]) (by
    by_cases hr : r1 = 0
    · rw [if_pos hr] at hn; simp [d2, hr, hn]
    · rw [if_neg hr] at hn; simp [d2, hr, hn]) ?_
  clear hn d2 d1
  -- the levels
  obtain ⟨s0', ls, hl, el⟩ := callU_levels (p := 0) (n := n) (S := [srcC s0]) (s := s0) rfl (show WfS [srcC s0] from rfl) n0 (by omega)
  refine run_nx (σ' := [some (.d (.scr ns)), some (.own 0), some (ti n), some (.own 1), none, none, none, none, none, none, none]) (S' := [srcC s0', .lst (ls.map ti)]) (by simp [el]) ?_
  clear el
  refine run_nx (σ' := [some (.d (.scr ns)), some (.own 0), some (ti n), some (.own 1), some (.own 2), none, none, none, none, none, none]) (S' := [srcC s0', .lst (ls.map ti), srcC s1]) (by simp [hs1, callN3_src]) ?_
  have d3 := draw_ok (p := 2) (n := n) (S := [srcC s0', .lst (ls.map ti), srcC s1]) (s := s1) rfl (by omega) (by omega)
  have b0 := dR_nn s1 (n := n) (by omega)
  generalize dR s1 n = r3 at d3 b0
  generalize dS s1 n = s1' at d3
  have w3 : ∀ s1 : Int × Int, WfS [srcC s0', .lst (ls.map ti), srcC s1] := fun s1 => by
    show ([srcC s0', .lst (ls.map ti), srcC s1] : Cs).all (cellBelow 3) = true
    simp only [List.all_cons, List.all_nil, cb_ti, cb_src, Bool.and_self]
  obtain ⟨s1, hs, hne, hsl, hh, ep⟩ := picked_ok (p := 2) (n := n) (c := 1 + r3) (S := [srcC s0', .lst (ls.map ti), srcC s1']) (s := s1') rfl (w3 _) n0 (by omega) (by omega)
  refine run_nx (σ' := [some (.d (.scr ns)), some (.own 0), some (ti n), some (.own 1), some (.own 2), some (.d (.lst (hs.map D.int))), none, none, none, none, none]) (S' := [srcC s0', .lst (ls.map ti), srcC s1]) (by
    simp at d3 ep
    simp [d3, ep]) ?_
  clear ep d3
  have hh' : ∀ h ∈ hs, 0 ≤ h ∧ h < ls.length := fun h hm => by have := hh h hm; omega
  have d4 := draw_ok (p := 2) (n := 2) (S := [srcC s0', .lst (ls.map ti), srcC s1]) (s := s1) rfl (by decide) (by decide)
  generalize dR s1 2 = r4 at d4
  generalize dS s1 2 = s1' at d4
  have sq : seqG (.d (.lst (hs.map D.int))) = fun S => some (false, hs.map ti, []) := by funext S; rw [seqG_lst, ← map_ti]
  refine run_nx (σ' := [some (.d (.scr ns)), some (.own 0), some (ti n), some (.own 1), some (.own 2), some (.d (.lst (hs.map D.int))), none, none, none, none, none]) (S' := [srcC s0', .lst (ls.map ti), srcC s1']) (by
    simp at d4
    by_cases hr : r4 = 1
    · have w4 : WfS [srcC s0', .lst (ls.map ti), srcC s1', .lst [.d (.tup (ls.map D.int)), .d (.tup (hs.map D.int))]] := by
        show ([srcC s0', .lst (ls.map ti), srcC s1', .lst [.d (.tup (ls.map D.int)), .d (.tup (hs.map D.int))]] : Cs).all (cellBelow 4) = true
        simp only [List.all_cons, List.all_nil, cb_ti, cb_src, Bool.and_self]
        rfl
      have rt := right_ok (S := [srcC s0', .lst (ls.map ti), srcC s1', .lst [.d (.tup (ls.map D.int)), .d (.tup (hs.map D.int))]]) (x := .own 1) (y := .d (.lst (hs.map D.int))) (z := .own 3) (b2 := false) (gs := []) (z0 := .d (.tup (ls.map D.int))) (z1 := .d (.tup (hs.map D.int))) (gs1 := []) (b1 := true) (ls := ls) (hs := hs) w4
        (seqOf_own rfl) (by rw [sq]) trivial (by rw [oIx_own (ts := [.d (.tup (ls.map D.int)), .d (.tup (hs.map D.int))]) rfl, atI_0]; rfl) (by rw [oIx_own (ts := [.d (.tup (ls.map D.int)), .d (.tup (hs.map D.int))]) rfl, atI_1]; rfl) (by rw [seqOf_tup, ← map_ti]) (by rw [seqG_tup, ← map_ti]) trivial
        (pyT_app rfl) (fun G => pyT_lst) hh' hsl
      have ct := callTK_s (n := 3) (S := [srcC s0', .lst (ls.map ti), srcC s1', .lst [.d (.tup (ls.map D.int)), .d (.tup (hs.map D.int))]]) (S' := [srcC s0', .lst (ls.map ti), srcC s1', .lst [.d (.tup (ls.map D.int)), .d (.tup (hs.map D.int))]]) (G := []) rfl (by rw [List.append_nil]; exact rt) rfl w4
      have bt := bTuple_own (S := [srcC s0', .lst (ls.map ti), srcC s1']) (p := 1) (ds := ls.map D.int) (by rw [← map_ti]; rfl)
      have bt2 := bTuple_lst (S := [srcC s0', .lst (ls.map ti), srcC s1']) (ds := hs.map D.int)
      have tr := fun d => trimT_s (d := d) (S' := [srcC s0', .lst (ls.map ti), srcC s1']) (G := [.lst [.d (.tup (ls.map D.int)), .d (.tup (hs.map D.int))]]) (k := 3) rfl (w3 _)
      simp at ct tr
      simp [d4, hr, bt, bt2, ct, tr]
    · simp [d4, hr]) ?_
  clear d4
  -- the lists that are passed
  have lA := bListA_seq (S := [srcC s0', .lst (ls.map ti), srcC s1']) (x := .own 1) (seqOf_own rfl)
  have lB := bListA_seq (S := [srcC s0', .lst (ls.map ti), srcC s1', .lst (ls.map ti)]) (x := .d (.lst (hs.map D.int))) (b := false) (ts := hs.map ti) (by rw [seqOf_lst, ← map_ti])
  refine run_nx (σ' := [some (.d (.scr ns)), some (.own 0), some (ti n), some (.own 1), some (.own 2), some (.d (.lst (hs.map D.int))), some (.own 5), none, none, none, none]) (S' := [srcC s0', .lst (ls.map ti), srcC s1', .lst (ls.map ti), .lst (hs.map ti), .lst [.own 3, .own 4]]) (by
    simp at lA lB
    simp [lA, lB]) ?_
  clear lA lB
  have w5 : WfS [srcC s0', .lst (ls.map ti), srcC s1', .lst (ls.map ti), .lst (hs.map ti), .lst [.own 3, .own 4]] := by
    show ([srcC s0', .lst (ls.map ti), srcC s1', .lst (ls.map ti), .lst (hs.map ti), .lst [.own 3, .own 4]] : Cs).all (cellBelow 6) = true
    simp only [List.all_cons, List.all_nil, cb_ti, cb_src, Bool.and_self]
    rfl
  have rt := right_ok (S := [srcC s0', .lst (ls.map ti), srcC s1', .lst (ls.map ti), .lst (hs.map ti), .lst [.own 3, .own 4]]) (x := .own 1) (y := .d (.lst (hs.map D.int))) (z := .own 5) (b2 := false) (gs := []) (z0 := .own 3) (z1 := .own 4) (ls := ls) (hs := hs) w5
        (seqOf_own rfl) (by rw [sq]) trivial (by rw [oIx_own (ts := [.own 3, .own 4]) rfl, atI_0]; rfl) (by rw [oIx_own (ts := [.own 3, .own 4]) rfl, atI_1]; rfl) (seqOf_own rfl) (seqG_own rfl) ⟨rfl, trivial⟩
        (pyT_app rfl) (fun G => pyT_lst) hh' hsl
  have ct := callTK_s (n := 3) (S := [srcC s0', .lst (ls.map ti), srcC s1', .lst (ls.map ti), .lst (hs.map ti), .lst [.own 3, .own 4]]) (S' := [srcC s0', .lst (ls.map ti), srcC s1', .lst (ls.map ti), .lst (hs.map ti), .lst [.own 3, .own 4]]) (G := []) rfl (by rw [List.append_nil]; exact rt) rfl w5
  refine run_nx (σ' := [some (.d (.scr ns)), some (.own 0), some (ti n), some (.own 1), some (.own 2), some (.d (.lst (hs.map D.int))), some (.own 5), none, none, none, none]) (S' := [srcC s0', .lst (ls.map ti), srcC s1', .lst (ls.map ti), .lst (hs.map ti), .lst [.own 3, .own 4]]) (by simp [ct]) ?_
  clear ct rt w5
  refine run_nx (σ' := [some (.d (.scr ns)), some (.own 0), some (ti n), some (.own 1), some (.own 2), some (.d (.lst (hs.map D.int))), some (.own 5), some (.own 6), none, none, none]) (S' := [srcC s0', .lst (ls.map ti), srcC s1', .lst (ls.map ti), .lst (hs.map ti), .lst [.own 3, .own 4], srcC s2]) (by simp [hs2, callN3_src]) ?_
  -- one holder's level
  have hlp : (0 : Int) < (hs.length : Int) := by have := List.length_pos_iff.mpr hne; omega
  have pick : ∀ r : Int, 0 ≤ r → r < hs.length → ∃ x, x ∈ hs ∧ atI ((hs.map D.int).map T.d) r = some (ti x) := fun r r0 r1 => by
    rw [← map_ti, atI_lv r0 r1]
    refine ⟨_, ?_, rfl⟩
    unfold lv
    have : r.toNat < hs.length := by omega
    rw [List.getD_eq_getElem?_getD, List.getElem?_eq_getElem this]
    exact List.getElem_mem this
  have dd : ∀ s : Int × Int, m_l_draw [.own 6, ti (hs.length : Int)] [srcC s0', .lst (ls.map ti), srcC s1', .lst (ls.map ti), .lst (hs.map ti), .lst [.own 3, .own 4], srcC s] = some (ti (dR s (hs.length : Int)), [srcC s0', .lst (ls.map ti), srcC s1', .lst (ls.map ti), .lst (hs.map ti), .lst [.own 3, .own 4], srcC (dS s (hs.length : Int))]) := fun s =>
    draw_ok (p := 6) (n := (hs.length : Int)) (S := [srcC s0', .lst (ls.map ti), srcC s1', .lst (ls.map ti), .lst (hs.map ti), .lst [.own 3, .own 4], srcC s]) (s := s) rfl hlp (by omega)
  obtain ⟨mv, hmv, emv⟩ := pick _ (dR_nn s2 hlp) (dR_lt s2 hlp)
  refine run_nx (σ' := [some (.d (.scr ns)), some (.own 0), some (ti n), some (.own 1), some (.own 2), some (.d (.lst (hs.map D.int))), some (.own 5), some (.own 6), some (ti mv), none, none]) (S' := [srcC s0', .lst (ls.map ti), srcC s1', .lst (ls.map ti), .lst (hs.map ti), .lst [.own 3, .own 4], srcC (dS s2 (hs.length : Int))]) (by
    simp at emv
    simp [dd, emv]) ?_
  generalize dS s2 (hs.length : Int) = s3
  obtain ⟨lk, hlk, elk⟩ := pick _ (dR_nn s3 hlp) (dR_lt s3 hlp)
  have hm := hh' mv hmv
  have hk := hh' lk hlk
  obtain ⟨ls2, s4, o9, hl2, e2⟩ : ∃ (ls2 : List Int) (s4 : Int × Int) (o9 : Option T), ls2.length = ls.length ∧ cIfS (cB (cBin oGt (cV 8) (cK (.int 0)))) (cSeq (cSet 9 (cBin oIx (cV 5) (cCallS m_l_draw [] 2 (aCons (cV 7) (aCons (cCB bLen (aCons (cV 5) (aNil))) (aNil))))))
      (cSeq (cSub (cV 3) (cV 8) (cBin oAdd (cBin oIx (cV 3) (cV 9)) (cCallS m_l_between [] 3 (aCons (cV 7) (aCons (cBin oSub (cK (.int 0)) (cK (.int 1))) (aCons (cK (.int 1)) (aNil)))))))
      (cSub (cBin oIx (cV 6) (cK (.int 0))) (cV 8) (cBin oIx (cV 3) (cV 8))))) (cNx) [some (.d (.scr ns)), some (.own 0), some (ti n), some (.own 1), some (.own 2), some (.d (.lst (hs.map D.int))), some (.own 5), some (.own 6), some (ti mv), none, none] [srcC s0', .lst (ls.map ti), srcC s1', .lst (ls.map ti), .lst (hs.map ti), .lst [.own 3, .own 4], srcC s3]
      = some (.nx, [some (.d (.scr ns)), some (.own 0), some (ti n), some (.own 1), some (.own 2), some (.d (.lst (hs.map D.int))), some (.own 5), some (.own 6), some (ti mv), o9, none], [srcC s0', .lst (ls2.map ti), srcC s1', .lst (ls2.map ti), .lst (hs.map ti), .lst [.own 3, .own 4], srcC s4]) := by
    by_cases hp : 0 < mv
    · have db := between_ok (p := 6) (a := -1) (b := 1) (S := [srcC s0', .lst (ls.map ti), srcC s1', .lst (ls.map ti), .lst (hs.map ti), .lst [.own 3, .own 4], srcC (dS s3 (hs.length : Int))]) (s := dS s3 (hs.length : Int)) rfl (by decide) (by decide)
      simp only [Int.reduceNeg, Int.reduceSub, Int.reduceAdd] at db
      generalize dR (dS s3 (hs.length : Int)) 3 = r5 at db
      generalize dS (dS s3 (hs.length : Int)) 3 = s4 at db
      have st : (ls.map ti).set mv.toNat (ti (lv ls lk + (-1 + r5))) = (ls.set mv.toNat (lv ls lk + (-1 + r5))).map ti := List.map_set.symm
      have i1 : oIx (.own 1) (ti lk) [srcC s0', .lst (ls.map ti), srcC s1', .lst (ls.map ti), .lst (hs.map ti), .lst [.own 3, .own 4], srcC (dS s3 (hs.length : Int))] = some (ti (lv ls lk), [srcC s0', .lst (ls.map ti), srcC s1', .lst (ls.map ti), .lst (hs.map ti), .lst [.own 3, .own 4], srcC (dS s3 (hs.length : Int))]) := by
        rw [oIx_own (ts := ls.map ti) rfl, atI_lv hk.1 hk.2]; rfl
      have k1 := fun (v : T) σ => subK3_s (x := v) (σ := σ) (S := [srcC s0', .lst (ls.map ti), srcC s1', .lst (ls.map ti), .lst (hs.map ti), .lst [.own 3, .own 4], srcC s4]) (k := 1) (ts := ls.map ti) (i := mv) (j := mv.toNat) rfl (ixN_ge hm.1 (by rw [List.length_map]; exact hm.2))
      generalize hl2 : ls.set mv.toNat (lv ls lk + (-1 + r5)) = ls2 at st
      have hl2' : ls2.length = ls.length := by rw [← hl2, List.length_set]
      have i2 : oIx (.own 1) (ti mv) [srcC s0', .lst (ls2.map ti), srcC s1', .lst (ls.map ti), .lst (hs.map ti), .lst [.own 3, .own 4], srcC s4] = some (ti (lv ls lk + (-1 + r5)), [srcC s0', .lst (ls2.map ti), srcC s1', .lst (ls.map ti), .lst (hs.map ti), .lst [.own 3, .own 4], srcC s4]) := by
        have hmn : mv.toNat < ls.length := by omega
        rw [oIx_own (ts := ls2.map ti) rfl, atI_lv hm.1 (by rw [hl2']; exact hm.2)]
        unfold lv
        rw [← hl2, List.getD_eq_getElem?_getD, List.getElem?_set_self hmn]
        rfl
      have i3 : oIx (.own 5) (ti 0) [srcC s0', .lst (ls2.map ti), srcC s1', .lst (ls.map ti), .lst (hs.map ti), .lst [.own 3, .own 4], srcC s4] = some (.own 3, [srcC s0', .lst (ls2.map ti), srcC s1', .lst (ls.map ti), .lst (hs.map ti), .lst [.own 3, .own 4], srcC s4]) := by
        rw [oIx_own (ts := [.own 3, .own 4]) rfl, atI_0]; rfl
      have k2 := fun (v : T) σ => subK3_s (x := v) (σ := σ) (S := [srcC s0', .lst (ls2.map ti), srcC s1', .lst (ls.map ti), .lst (hs.map ti), .lst [.own 3, .own 4], srcC s4]) (k := 3) (ts := ls.map ti) (i := mv) (j := mv.toNat) rfl (ixN_ge hm.1 (by rw [List.length_map]; exact hm.2))
      refine ⟨ls2, s4, some (ti lk), hl2', ?_⟩
      simp at elk db
      simp [hp, dd, elk, i1, db, k1, st, i2, i3, k2]
    · exact ⟨ls, s3, none, rfl, by simp [hp]⟩
  refine run_nx e2 ?_
  clear e2 dd pick elk emv
  -- the holders turned
  obtain ⟨h0, t, rfl⟩ : ∃ h t, hs = h :: t := by
    cases hs with
    | nil => exact absurd rfl hne
    | cons h t => exact ⟨h, t, rfl⟩
  have hh2 : ∀ h ∈ t ++ [h0], 0 ≤ h ∧ h < ls2.length := fun h hm => by
    rw [hl2]
    exact hh' h (by simpa [or_comm] using hm)
  refine run_nx (σ' := [some (.d (.scr ns)), some (.own 0), some (ti n), some (.own 1), some (.own 2), some (.own 9), some (.own 5), some (.own 6), some (ti mv), o9, none]) (S' := [srcC s0', .lst (ls2.map ti), srcC s1', .lst (ls2.map ti), .lst ((h0 :: t).map ti), .lst [.own 3, .own 4], srcC s4, .lst (t.map ti), .lst [ti h0], .lst ((t ++ [h0]).map ti)]) (by
    have c1 := fun σ => cSl_own (fe := cV 5) (lo := partI (cK (.int 1))) (hi := noPart) (σ := some (.d (.scr ns)) :: some (.own 0) :: some (ti n) :: some (.own 1) :: some (.own 2) :: some (.d (.lst ((h0 :: t).map D.int))) :: σ) (S := [srcC s0', .lst (ls2.map ti), srcC s1', .lst (ls2.map ti), .lst ((h0 :: t).map ti), .lst [.own 3, .own 4], srcC s4]) (x := .d (.lst ((h0 :: t).map D.int))) (a := some 1) (b := none) (ts := (h0 :: t).map ti) rfl rfl rfl (by rw [seqOf_lst, ← map_ti])
    have c2 := fun σ => cSl_own (fe := cV 5) (lo := noPart) (hi := partI (cK (.int 1))) (σ := some (.d (.scr ns)) :: some (.own 0) :: some (ti n) :: some (.own 1) :: some (.own 2) :: some (.d (.lst ((h0 :: t).map D.int))) :: σ) (S := [srcC s0', .lst (ls2.map ti), srcC s1', .lst (ls2.map ti), .lst ((h0 :: t).map ti), .lst [.own 3, .own 4], srcC s4, .lst (t.map ti)]) (x := .d (.lst ((h0 :: t).map D.int))) (a := none) (b := some 1) (ts := (h0 :: t).map ti) rfl rfl rfl (by rw [seqOf_lst, ← map_ti])
    have c3 := oAdd_own (S := [srcC s0', .lst (ls2.map ti), srcC s1', .lst (ls2.map ti), .lst ((h0 :: t).map ti), .lst [.own 3, .own 4], srcC s4, .lst (t.map ti), .lst [ti h0]]) (p := 7) (q := 8) (a := t.map ti) (b := [ti h0]) rfl rfl (by simp at hsl; simp; omega)
    simp only [List.map_cons, cut_tail] at c1
    simp only [List.map_cons, cut_head] at c2
    simp at c1 c2 c3
    simp [c1, c2, c3]) ?_
  refine run_nx (turn_ok (a := ti h0) (r := t.map ti) rfl rfl rfl (by simp at hsl; simp; omega)) ?_
  have em : t.map ti ++ [ti h0] = (t ++ [h0]).map ti := by simp
  rw [em]
  have hne2 : t ++ [h0] ≠ [] := by simp
  have hl3 : (t ++ [h0]).length ≤ 1000 := by simpa using hsl
  generalize t ++ [h0] = q at hne2 hh2 hl3
  obtain ⟨q0, qt, rfl⟩ : ∃ h t, q = h :: t := by
    cases q with
    | nil => exact absurd rfl hne2
    | cons h t => exact ⟨h, t, rfl⟩
  show ∃ S', fnK (cSeq _ _ [some (.d (.scr ns)), some (.own 0), some (ti n), some (.own 1), some (.own 2), some (.own 9), some (.own 5), some (.own 6), some (ti mv), o9, none] [srcC s0', .lst (ls2.map ti), srcC s1', .lst (ls2.map ti), .lst ((q0 :: qt).map ti), .lst [.own 3, .own 4], srcC s4, .lst (t.map ti), .lst [ti h0], .lst ((q0 :: qt).map ti)]) = _
  have w9 : ∀ (l m : List Int) (s : Int × Int), WfS [srcC s0', .lst (ls2.map ti), srcC s1', .lst (ls2.map ti), .lst (l.map ti), .lst [.own 3, .own 4], srcC s, .lst (t.map ti), .lst [ti h0], .lst (m.map ti)] := fun l m s => by
    show ([srcC s0', .lst (ls2.map ti), srcC s1', .lst (ls2.map ti), .lst (l.map ti), .lst [.own 3, .own 4], srcC s, .lst (t.map ti), .lst [ti h0], .lst (m.map ti)] : Cs).all (cellBelow 10) = true
    simp only [List.all_cons, List.all_nil, cb_ti, cb_src, Bool.and_self]
    rfl
  obtain ⟨k, S', hs', e6, n6, m6, l6, w6, f1, f3, f4, f5, fk⟩ := shrink (o0 := some (.d (.scr ns))) (o1 := some (.own 0)) (o2 := some (ti n)) (o4 := some (.own 2)) (o8 := some (ti mv)) (o9 := o9) (ls := ls2) (a := q0) (r := qt) (s := s4) (w9 (q0 :: qt) (q0 :: qt) s4) rfl rfl rfl rfl rfl rfl rfl (by simp at hl3; omega)
  refine run_nx e6 ?_
  exact law_end w6 f1 fk f5 f3 f4 n6 (by omega) (fun h hm => hh2 h (m6 h hm)) ns
end Lw
namespace Lw
open PySem PySem.Spec PyProof.Rows L2 FL
def dd_rank_in : He.DefD := ⟨("rank_in", none), "rank_in", "rank_in", defArgs (top 1), defBody (top 1), defScope (top 1), [], []⟩
def dd_l_source : He.DefD := ⟨("_law_source", none), "_law_source", "_law_source", defArgs (top 3), defBody (top 3), defScope (top 3), [], []⟩
def dd_l_draw : He.DefD := ⟨("_law_draw", none), "_law_draw", "_law_draw", defArgs (top 4), defBody (top 4), defScope (top 4), [], []⟩
def dd_l_whole : He.DefD := ⟨("_law_whole", none), "_law_whole", "_law_whole", defArgs (top 6), defBody (top 6), defScope (top 6), [], []⟩
def dd_l_due : He.DefD := ⟨("_law_due", none), "_law_due", "_law_due", defArgs (top 9), defBody (top 9), defScope (top 9), [], []⟩
def dd_l_between : He.DefD := ⟨("_law_between", none), "_law_between", "_law_between", defArgs (top 5), defBody (top 5), defScope (top 5), [], []⟩
def dd_l_picked : He.DefD := ⟨("_law_picked", none), "_law_picked", "_law_picked", defArgs (top 8), defBody (top 8), defScope (top 8), [], []⟩
def dd_l_right : He.DefD := ⟨("_law_right", none), "_law_right", "_law_right", defArgs (top 10), defBody (top 10), defScope (top 10), [], []⟩
def dd_l_levels : He.DefD := ⟨("_law_levels", none), "_law_levels", "_law_levels", defArgs (top 7), defBody (top 7), defScope (top 7), [], []⟩
def dd_law : He.DefD := ⟨("law", none), "law", "law", defArgs (top 11), defBody (top 11), defScope (top 11), [], []⟩
def fnL : List He.DefD := [dd_rank_in, dd_l_source, dd_l_draw, dd_l_whole, dd_l_due, dd_l_between, dd_l_picked, dd_l_right, dd_l_levels, dd_law]
def faL : List He.Fa := [.glo "rank_in", .glo "_law_source", .glo "_law_draw", .glo "_law_whole", .glo "_law_due", .glo "_law_between", .glo "_law_picked", .glo "_law_right", .glo "_law_levels", .glo "law", .free "abs", .free "bool", .free "int", .free "isinstance", .free "len", .free "list", .free "min", .free "range", .free "tuple"]
def lo_0 : List Str := ["rank_in", "_law_source", "_law_draw", "_law_between", "_law_whole", "_law_levels", "_law_picked", "_law_due", "_law_right"]
def loose : List Str := lo_0
abbrev RR : PySem.W.OpenRow := PySem.W.OpenLaw.row PySem.Challenge.rw_counthall_k28_rank_in
abbrev hk : PySem.W.Hook := He.hookD 4 faL fnL
def obs (s : PySem.W.SharedT) : He.AlD := He.obsDG 4 faL fnL (HandSHeadRun.getT s)
theorem obs_eq (s : PySem.W.SharedT) : obs s = hk.obs s.abs := He.obsDG_eq (HandSHeadRun.getT_eq s)
theorem run (w : World) : HandSHeadRun.RunEq RR (PySem.W.view RR.prog [11]) hk obs 600 loose w := by
  intro os
  kernel_rfl
theorem facts {K : Frg} {h : Heap} {mg : Str → Option Value} (X : K.In h) (G : h.Ns mainGlobals mg) (c : He.SaysD faL fnL K) : Tx K mg := by
  refine { g_rank_in := He.glo_ok X G (c.fact 0 (f := .glo "rank_in") rfl), d_rank_in := c.def_ 0 (d := dd_rank_in) rfl, g_l_source := He.glo_ok X G (c.fact 1 (f := .glo "_law_source") rfl), d_l_source := c.def_ 1 (d := dd_l_source) rfl, g_l_draw := He.glo_ok X G (c.fact 2 (f := .glo "_law_draw") rfl), d_l_draw := c.def_ 2 (d := dd_l_draw) rfl, g_l_whole := He.glo_ok X G (c.fact 3 (f := .glo "_law_whole") rfl), d_l_whole := c.def_ 3 (d := dd_l_whole) rfl, g_l_due := He.glo_ok X G (c.fact 4 (f := .glo "_law_due") rfl), d_l_due := c.def_ 4 (d := dd_l_due) rfl, g_l_between := He.glo_ok X G (c.fact 5 (f := .glo "_law_between") rfl), d_l_between := c.def_ 5 (d := dd_l_between) rfl, g_l_picked := He.glo_ok X G (c.fact 6 (f := .glo "_law_picked") rfl), d_l_picked := c.def_ 6 (d := dd_l_picked) rfl, g_l_right := He.glo_ok X G (c.fact 7 (f := .glo "_law_right") rfl), d_l_right := c.def_ 7 (d := dd_l_right) rfl, g_l_levels := He.glo_ok X G (c.fact 8 (f := .glo "_law_levels") rfl), d_l_levels := c.def_ 8 (d := dd_l_levels) rfl, g_law := He.glo_ok X G (c.fact 9 (f := .glo "law") rfl), d_law := c.def_ 9 (d := dd_law) rfl, b_abs := He.free_ok X G (c.fact 10 (f := .free "abs") rfl), b_bool := He.free_ok X G (c.fact 11 (f := .free "bool") rfl), b_int := He.free_ok X G (c.fact 12 (f := .free "int") rfl), b_isinstance := He.free_ok X G (c.fact 13 (f := .free "isinstance") rfl), b_len := He.free_ok X G (c.fact 14 (f := .free "len") rfl), b_list := He.free_ok X G (c.fact 15 (f := .free "list") rfl), b_min := He.free_ok X G (c.fact 16 (f := .free "min") rfl), b_range := He.free_ok X G (c.fact 17 (f := .free "range") rfl), b_tuple := He.free_ok X G (c.fact 18 (f := .free "tuple") rfl) }
theorem ok_all {P : Program} {w : World} {K : Frg} {mg : Str → Option Value} (T : Tx K mg) : OkD P w K mg 4 "law" ["_law_script"] m_law := by
  have h_rank_in := ok_rank_in (P := P) (w := w) T 
  have h_l_source := ok_l_source (P := P) (w := w) T 
  have h_l_draw := ok_l_draw (P := P) (w := w) T 
  have h_l_whole := ok_l_whole (P := P) (w := w) T 
  have h_l_due := ok_l_due (P := P) (w := w) T 
  have h_l_between := ok_l_between (P := P) (w := w) T h_l_draw
  have h_l_picked := ok_l_picked (P := P) (w := w) T h_l_draw
  have h_l_right := ok_l_right (P := P) (w := w) T h_l_due h_l_whole h_rank_in
  have h_l_levels := ok_l_levels (P := P) (w := w) T h_l_between h_l_draw
  have h_law := ok_law (P := P) (w := w) T h_l_between h_l_draw h_l_levels h_l_picked h_l_right h_l_source h_l_whole h_rank_in
  exact h_law
end Lw
open PySem PySem.W PySem.Calls PyProof.Rows
set_option maxRecDepth 100000 in
set_option maxHeartbeats 0 in
theorem PySem.Challenge.cw_counthall_k28_rank_in_holds : PySem.Challenge.rw_counthall_k28_rank_in.Holds := by
  w_on; o_law
  refine HandSHeadRun.head_any (r := OpenLaw.row PySem.Challenge.rw_counthall_k28_rank_in) (q := view (OpenLaw.row PySem.Challenge.rw_counthall_k28_rank_in).prog [11]) (H := Lw.hk) (ob := Lw.obs) (M := 600) (loose := Lw.loose) (d := HandSHeadRun.topDef (OpenLaw.row PySem.Challenge.rw_counthall_k28_rank_in).prog 11) (kwd := []) Lw.obs_eq
    (by kernel_rfl) (fun s => by kernel_rfl) Lw.run (by kernel_rfl) (by kernel_rfl) (by kernel_rfl) (by rfl) (by first | assumption | decide +kernel) (by decide +kernel) ⟨rfl, rfl, rfl, rfl, rfl, by decide +kernel⟩ ?hw ?hc
  case hw => w_witness2
  case hc =>
    refine L2.walk_ofE (l := PySem.Challenge.rw_counthall_k28_rank_in) (n := 63) (k := 4) (x := "_law_script") (CX := L2.CX0) rfl (by decide) (by kernel_rfl) ⟨rfl, by decide, by decide⟩ ?F (fun _ _ _ _ z => z)
    intro w mg fa h Y G hmg0
    obtain ⟨K, KX, c⟩ := Y
    have hmg : mg ("law" : PySem.Str) = some (.ref fa) := by
      have e : (HandSHeadRun.topDef (OpenLaw.row PySem.Challenge.rw_counthall_k28_rank_in).prog 11).name = ("law" : PySem.Str) := by kernel_rfl
      rw [← e]
      exact hmg0
    have T := Lw.facts KX G c
    have ef := hmg.symm.trans T.g_law
    cases ef
    obtain ⟨fd, G', _, b⟩ := (Lw.ok_all (P := (PySem.Challenge.rw_counthall_k28_rank_in).prog) (w := w) T).ex
    exact ⟨K, fd, FL.spF K 1 Lw.m_law, KX, fun s u => b s [u] rfl, fun H a ns hl _ hS => FL.law_sp Lw.law_true H a ns hl hS, fun base _ _ => G' base⟩
