import PyProof.Rows.All
import Wide.All
import OpenK.AllK
import Wide.FinOn
import HandS.ForMost
import HandS.HeadHook1
import HandS.HeadHook2
import HandS.Wide
import HandS.IsInst
import HandS.Defaults
import HandS.SortInts
import HandS.TupAny
import HandS.Sort
import PyProof.ListRange
import KE.KStateDown
import HandS.Head0
import HandS.Head1
import HandS.Head2
import HandS.HeadEnd
import HandS.Flt
import PySem.Challenge.RW_counthall_k38_middle_span
set_option Elab.async false
set_option linter.all false
set_option autoImplicit false
set_option maxRecDepth 100000
set_option maxHeartbeats 4000000
/-! FL: plain data (D), values with local objects (T), the two worlds' tie (RelS, SlotsOk, Step). -/
namespace FL
open PySem PySem.Spec PyProof.Rows L2
abbrev Frg := PySem.W.Frag

/-- a value that never changes any more -/
inductive D where
  | non | bl (b : Bool) | int (i : Int) | str (x : Str) | tup (ds : List D) | lst (ds : List D) | obj (c : Str) (fs : List (Str × D)) | scr (ns : List Int) | ty (n : String) | glob (c : Str) | rng (lo hi : Int)
/-- a value: such data, or the local object numbered p -/
inductive T where
  | d (d : D) | own (p : Nat)
/-- a local object: a list, an instance, or one that is data from now on -/
inductive Cell where
  | lst (ts : List T) | ins (c : Str) (fs : List (Str × T)) | frz (d : D)
abbrev Sg := List (Option T)
abbrev Cs := List Cell

mutual
inductive Rep (K : Frg) (F : Hp) : V → D → Prop
  | non : Rep K F .non .non
  | bl (b : Bool) : Rep K F (.bl b) (.bl b)
  | int (i : Int) : Rep K F (.int i) (.int i)
  | str (x : Str) : Rep K F (.str x) (.str x)
  | tup {a : Addr} {vs : List V} {ds : List D} : SqT K F a vs → Reps K F vs ds → Rep K F (.ref a) (.tup ds)
  | lst {a : Addr} {vs : List V} {ds : List D} : F a = some (.lst vs) → Reps K F vs ds → Rep K F (.ref a) (.lst ds)
  | obj {a dx : Addr} {c : Str} {fvs : List (Str × V)} {fs : List (Str × D)} : F a = some (.ins (He.ga K c) dx fvs) → RepF K F fvs fs → Rep K F (.ref a) (.obj c fs)
  | scr {a : Addr} {ns : List Int} : SqL K F a (ns.map V.int) → Rep K F (.ref a) (.scr ns)
  | ty (n : String) : Rep K F (.ty n) (.ty n)
  | glob (c : Str) : Rep K F (.ref (He.ga K c)) (.glob c)
  | rng {a : Addr} {lo hi : Int} : F a = some (.rng lo hi) → Rep K F (.ref a) (.rng lo hi)
inductive Reps (K : Frg) (F : Hp) : List V → List D → Prop
  | nil : Reps K F [] []
  | cons {v : V} {d : D} {vs : List V} {ds : List D} : Rep K F v d → Reps K F vs ds → Reps K F (v :: vs) (d :: ds)
inductive RepF (K : Frg) (F : Hp) : List (Str × V) → List (Str × D) → Prop
  | nil : RepF K F [] []
  | cons {f : Str} {v : V} {d : D} {vs : List (Str × V)} {ds : List (Str × D)} : Rep K F v d → RepF K F vs ds → RepF K F ((f, v) :: vs) ((f, d) :: ds)
end

def RepT (K : Frg) (F : Hp) (ad : List Addr) (v : V) : T → Prop
  | .d d => Rep K F v d
  | .own p => ∃ a, ad[p]? = some a ∧ v = .ref a
abbrev RepTs (K : Frg) (F : Hp) (ad : List Addr) : List V → List T → Prop := Paired fun v t => RepT K F ad v t
abbrev RepTF (K : Frg) (F : Hp) (ad : List Addr) : List (Str × V) → List (Str × T) → Prop := Paired fun p q => p.1 = q.1 ∧ RepT K F ad p.2 q.2
def CellOk (K : Frg) (F : Hp) (ad : List Addr) (H : Hp) (a : Addr) : Cell → Prop
  | .lst ts => F a = none ∧ ∃ vs, H a = some (.lst vs) ∧ RepTs K F ad vs ts
  | .ins c fs => F a = none ∧ ∃ dx fvs, H a = some (.ins (He.ga K c) dx fvs) ∧ RepTF K F ad fvs fs
  | .frz d => Rep K F (.ref a) d ∧ ∃ o, H a = some o
structure RelS (K : Frg) (F : Hp) (ad : List Addr) (S : Cs) (H : Hp) : Prop where
  sub : ∀ b o, F b = some o → H b = some o
  nd : ad.Nodup
  len : ad.length = S.length
  cells : ∀ (p : Nat) (a : Addr) (c : Cell), ad[p]? = some a → S[p]? = some c → CellOk K F ad H a c
def SlotsOk (K : Frg) (F : Hp) (ad : List Addr) (σ : Sg) (τ : L2.St) : Prop :=
  σ.length = τ.length ∧ ∀ (i : Nat) (t : T), σ[i]? = some (some t) → ∃ v, τ[i]? = some (some v) ∧ RepT K F ad v t
structure Step (F : Hp) (ad : List Addr) (H : Hp) (F' : Hp) (ad' : List Addr) (H' : Hp) : Prop where
  fsub : ∀ b o, F b = some o → F' b = some o
  fnew : ∀ b o, F' b = some o → F b = some o ∨ b ∈ ad ∨ H b = none
  adx : ∃ l, ad' = ad ++ l ∧ ∀ a ∈ l, H a = none
  keep : ∀ b o, H b = some o → b ∉ ad → H' b = some o
  alive : ∀ b, H' b = none → H b = none

section
variable {K : Frg} {F F' F'' : Hp} {ad ad' ad'' : List Addr} {S S' : Cs} {H H' H'' : Hp} {v : V}
theorem Step.refl : Step F ad H F ad H := ⟨fun _ _ h => h, fun _ _ h => .inl h, ⟨[], by simp, fun _ h => by simp at h⟩, fun _ _ h _ => h, fun _ h => h⟩
theorem Step.trans (s : Step F ad H F' ad' H') (r : Step F' ad' H' F'' ad'' H'') : Step F ad H F'' ad'' H'' := by
  obtain ⟨l, e, hl⟩ := s.adx
  obtain ⟨l', e', hl'⟩ := r.adx
  have new : ∀ b, b ∈ ad' → b ∈ ad ∨ H b = none := fun b hb => by
    rw [e] at hb
    rcases List.mem_append.mp hb with h | h
    · exact .inl h
    · exact .inr (hl b h)
  refine ⟨fun b o h => r.fsub b o (s.fsub b o h), fun b o h => ?_, ⟨l ++ l', by rw [e', e, List.append_assoc], fun a ha => ?_⟩, fun b o h hn => ?_, fun b h => s.alive b (r.alive b h)⟩
  · rcases r.fnew b o h with h | h | h
    · exact s.fnew b o h
    · exact .inr (new b h)
    · exact .inr (.inr (s.alive b h))
  · rcases List.mem_append.mp ha with h | h
    · exact hl a h
    · exact s.alive a (hl' a h)
  · refine r.keep b o (s.keep b o h hn) fun hb => ?_
    rcases new b hb with h' | h'
    · exact hn h'
    · rw [h'] at h; cases h
theorem SqT.sub (h : ∀ b o, F b = some o → F' b = some o) {a : Addr} {xs : List V} (q : SqT K F a xs) : SqT K F' a xs := by
  rcases q with (q | ⟨o, q⟩) | q
  · exact .inl (.inl (h _ _ q))
  · exact .inl (.inr ⟨o, h _ _ q⟩)
  · exact .inr q
theorem SqL.sub (h : ∀ b o, F b = some o → F' b = some o) {a : Addr} {xs : List V} (q : SqL K F a xs) : SqL K F' a xs := by
  rcases q with (q | ⟨o, q⟩) | q
  · exact .inl (.inl (h _ _ q))
  · exact .inl (.inr ⟨o, h _ _ q⟩)
  · exact .inr q
mutual
theorem Rep.mono (h : ∀ b o, F b = some o → F' b = some o) : ∀ {v : V} {d : D}, Rep K F v d → Rep K F' v d
  | _, _, .non => .non
  | _, _, .bl b => .bl b
  | _, _, .int i => .int i
  | _, _, .str x => .str x
  | _, _, .tup q r => .tup (SqT.sub h q) (Reps.mono h r)
  | _, _, .lst q r => .lst (h _ _ q) (Reps.mono h r)
  | _, _, .obj q r => .obj (h _ _ q) (RepF.mono h r)
  | _, _, .scr q => .scr (SqL.sub h q)
  | _, _, .ty n => .ty n
  | _, _, .glob c => .glob c
  | _, _, .rng q => .rng (h _ _ q)
theorem Reps.mono (h : ∀ b o, F b = some o → F' b = some o) : ∀ {v : List V} {d : List D}, Reps K F v d → Reps K F' v d
  | _, _, .nil => .nil
  | _, _, .cons q r => .cons (Rep.mono h q) (Reps.mono h r)
theorem RepF.mono (h : ∀ b o, F b = some o → F' b = some o) : ∀ {v : List (Str × V)} {d : List (Str × D)}, RepF K F v d → RepF K F' v d
  | _, _, .nil => .nil
  | _, _, .cons q r => .cons (Rep.mono h q) (RepF.mono h r)
end
theorem Reps.length : ∀ {vs : List V} {ds : List D}, Reps K F vs ds → vs.length = ds.length
  | _, _, .nil => rfl
  | _, _, .cons _ r => by simp [Reps.length r]
theorem Reps.get : ∀ {vs : List V} {ds : List D} {i : Nat} {d : D}, Reps K F vs ds → ds[i]? = some d → ∃ v, vs[i]? = some v ∧ Rep K F v d
  | _, _, _, _, .nil, e => by simp at e
  | _, _, 0, _, .cons q _, e => by simp at e; subst e; exact ⟨_, rfl, q⟩
  | _, _, i + 1, d, .cons _ r, e => by
    obtain ⟨v, h1, h2⟩ := Reps.get (i := i) (d := d) r (by simpa using e)
    exact ⟨v, by simpa using h1, h2⟩
theorem Paired.get {α β : Type} {R : α → β → Prop} : ∀ {vs : List α} {ds : List β} {i : Nat} {d : β}, Paired R vs ds → ds[i]? = some d → ∃ v, vs[i]? = some v ∧ R v d
  | _, _, _, _, .nil, e => by simp at e
  | _, _, 0, _, .cons q _, e => by simp at e; subst e; exact ⟨_, rfl, q⟩
  | _, _, i + 1, d, .cons _ r, e => by
    obtain ⟨v, h1, h2⟩ := Paired.get (i := i) (d := d) r (by simpa using e)
    exact ⟨v, by simpa using h1, h2⟩
theorem Reps.ts : ∀ {vs : List V} {ds : List D}, Reps K F vs ds → RepTs K F ad vs (ds.map .d)
  | _, _, .nil => .nil
  | _, _, .cons q r => .cons q (Reps.ts r)
theorem Reps.append : ∀ {vs ws : List V} {ds es : List D}, Reps K F vs ds → Reps K F ws es → Reps K F (vs ++ ws) (ds ++ es)
  | _, _, _, _, .nil, s => s
  | _, _, _, _, .cons r t, s => .cons r (Reps.append t s)
theorem Paired.append {α β : Type} {R : α → β → Prop} : ∀ {vs ws : List α} {ds es : List β}, Paired R vs ds → Paired R ws es → Paired R (vs ++ ws) (ds ++ es)
  | _, _, _, _, .nil, s => s
  | _, _, _, _, .cons r t, s => .cons r (Paired.append t s)
theorem Paired.take {α β : Type} {R : α → β → Prop} : ∀ {vs : List α} {ds : List β} (n : Nat), Paired R vs ds → Paired R (vs.take n) (ds.take n)
  | _, _, 0, _ => .nil
  | _, _, _ + 1, .nil => .nil
  | _, _, n + 1, .cons r t => .cons r (Paired.take n t)
theorem Paired.drop {α β : Type} {R : α → β → Prop} : ∀ {vs : List α} {ds : List β} (n : Nat), Paired R vs ds → Paired R (vs.drop n) (ds.drop n)
  | _, _, 0, r => r
  | _, _, _ + 1, .nil => .nil
  | _, _, n + 1, .cons _ t => Paired.drop n t
theorem Paired.set {α β : Type} {R : α → β → Prop} {x : α} {y : β} (r : R x y) : ∀ {vs : List α} {ds : List β} (n : Nat), Paired R vs ds → Paired R (vs.set n x) (ds.set n y)
  | _, _, _, .nil => .nil
  | _, _, 0, .cons _ t => .cons r t
  | _, _, n + 1, .cons q t => .cons q (Paired.set r n t)
theorem RepT.mono (h : ∀ b o, F b = some o → F' b = some o) {l : List Addr} (t : T) (r : RepT K F ad v t) : RepT K F' (ad ++ l) v t := by
  cases t with
  | d d => exact Rep.mono h r
  | own p =>
    obtain ⟨a, e, r⟩ := r
    exact ⟨a, by rw [List.getElem?_append_left (List.getElem?_eq_some_iff.mp e).1]; exact e, r⟩
theorem RepT.step (s : Step F ad H F' ad' H') {t : T} (r : RepT K F ad v t) : RepT K F' ad' v t := by
  obtain ⟨l, e, _⟩ := s.adx
  rw [e]
  exact RepT.mono s.fsub t r
theorem RepTs.step (s : Step F ad H F' ad' H') {vs : List V} {ts : List T} (r : RepTs K F ad vs ts) : RepTs K F' ad' vs ts := Paired.mapP r fun _ _ q => RepT.step s q
theorem RepTF.step (s : Step F ad H F' ad' H') {vs : List (Str × V)} {ts : List (Str × T)} (r : RepTF K F ad vs ts) : RepTF K F' ad' vs ts := Paired.mapP r fun _ _ q => ⟨q.1, RepT.step s q.2⟩
theorem SlotsOk.step (s : Step F ad H F' ad' H') {σ : Sg} {τ : L2.St} (r : SlotsOk K F ad σ τ) : SlotsOk K F' ad' σ τ :=
  ⟨r.1, fun i t e => let ⟨v, h1, h2⟩ := r.2 i t e; ⟨v, h1, RepT.step s h2⟩⟩
theorem SlotsOk.set {σ : Sg} {τ : L2.St} (r : SlotsOk K F ad σ τ) {t : T} (q : RepT K F ad v t) (i : Nat) : SlotsOk K F ad (σ.set i (some t)) (τ.set i (some v)) := by
  refine ⟨by simp [r.1], fun j u e => ?_⟩
  rw [List.getElem?_set] at e
  rw [List.getElem?_set]
  by_cases hij : i = j
  · subst hij
    rw [if_pos rfl] at e
    rw [if_pos rfl]
    by_cases hl : i < σ.length
    · rw [if_pos hl] at e
      rw [if_pos (r.1 ▸ hl)]
      cases e
      exact ⟨v, rfl, q⟩
    · rw [if_neg hl] at e
      cases e
  · rw [if_neg hij] at e
    rw [if_neg hij]
    exact r.2 j u e
/-- forget slots -/
def forget (is : List Nat) (σ : Sg) : Sg := is.foldl (fun s i => s.set i none) σ
theorem SlotsOk.forget1 {σ : Sg} {τ : L2.St} (r : SlotsOk K F ad σ τ) (i : Nat) : SlotsOk K F ad (σ.set i none) τ := by
  refine ⟨by simp [r.1], fun j u e => ?_⟩
  rw [List.getElem?_set] at e
  by_cases hij : i = j
  · subst hij
    rw [if_pos rfl] at e
    by_cases hl : i < σ.length
    · rw [if_pos hl] at e; cases e
    · rw [if_neg hl] at e; cases e
  · rw [if_neg hij] at e
    exact r.2 j u e
theorem SlotsOk.forget {τ : L2.St} : ∀ {is : List Nat} {σ : Sg}, SlotsOk K F ad σ τ → SlotsOk K F ad (forget is σ) τ
  | [], _, r => r
  | i :: is, σ, r => SlotsOk.forget (is := is) (r.forget1 i)
theorem RelS.cell (r : RelS K F ad S H) {p : Nat} {c : Cell} (e : S[p]? = some c) : ∃ a, ad[p]? = some a ∧ CellOk K F ad H a c := by
  have hl : p < ad.length := by rw [r.len]; exact (List.getElem?_eq_some_iff.mp e).1
  exact ⟨ad[p], List.getElem?_eq_getElem hl, r.cells p _ c (List.getElem?_eq_getElem hl) e⟩
theorem CellOk.there {a : Addr} {c : Cell} (r : CellOk K F ad H a c) : ∃ o, H a = some o := by
  cases c with
  | lst ts => obtain ⟨_, vs, h, _⟩ := r; exact ⟨_, h⟩
  | ins c fs => obtain ⟨_, dx, fvs, h, _⟩ := r; exact ⟨_, h⟩
  | frz d => exact r.2
theorem RelS.there (r : RelS K F ad S H) {a : Addr} (h : a ∈ ad) : ∃ o, H a = some o := by
  obtain ⟨p, hp, e⟩ := List.getElem_of_mem h
  have hl : p < S.length := by rw [← r.len]; exact hp
  exact (r.cells p a _ (by rw [← e]; exact List.getElem?_eq_getElem hp) (List.getElem?_eq_getElem hl)).there
/-- a cell's tie, carried over -/
theorem CellOk.step {a : Addr} {c : Cell} (r : CellOk K F ad H a c) (s : Step F ad H F' ad' H') (h : ∀ o, H a = some o → H' a = some o) (hf : F a = none → F' a = none) : CellOk K F' ad' H' a c := by
  cases c with
  | lst ts => obtain ⟨n, vs, e, q⟩ := r; exact ⟨hf n, vs, h _ e, RepTs.step s q⟩
  | ins c fs => obtain ⟨n, dx, fvs, e, q⟩ := r; exact ⟨hf n, dx, fvs, h _ e, RepTF.step s q⟩
  | frz d => obtain ⟨q, o, e⟩ := r; exact ⟨Rep.mono s.fsub q, o, h _ e⟩
/-- a new object stands at a: local from now on -/
theorem RelS.new (r : RelS K F ad S H) {a : Addr} {o : HO} (hn : H a = none) {c : Cell} (hc : ∀ l, CellOk K F (ad ++ l) (upd H a o) a c) : RelS K F (ad ++ [a]) (S ++ [c]) (upd H a o) ∧ Step F ad H F (ad ++ [a]) (upd H a o) := by
  have st : Step F ad H F (ad ++ [a]) (upd H a o) := by
    refine ⟨fun _ _ h => h, fun _ _ h => .inl h, ⟨[a], rfl, fun b hb => by rw [List.mem_singleton.mp hb]; exact hn⟩, fun b u h _ => ?_, fun b h => ?_⟩
    · rw [upd_ne (ne_of_none h hn)]; exact h
    · by_cases hb : b = a
      · rw [hb]; exact hn
      · rw [upd_ne hb] at h; exact h
  have na : a ∉ ad := fun h => by
    obtain ⟨u, e⟩ := r.there h
    rw [hn] at e; cases e
  refine ⟨⟨fun b u h => ?_, ?_, by simp [r.len], fun p b c' e1 e2 => ?_⟩, st⟩
  · have h' := r.sub b u h
    rw [upd_ne (ne_of_none h' hn)]; exact h'
  · rw [List.nodup_append]
    exact ⟨r.nd, by simp, fun x hx y hy => by rw [List.mem_singleton.mp hy]; exact fun e => na (e ▸ hx)⟩
  · by_cases hp : p < ad.length
    · rw [List.getElem?_append_left hp] at e1
      rw [List.getElem?_append_left (by rw [← r.len]; exact hp)] at e2
      have q := r.cells p b c' e1 e2
      exact q.step st (fun u e => by rw [upd_ne (ne_of_none e hn)]; exact e) fun h => h
    · rw [List.getElem?_append_right (Nat.le_of_not_lt hp)] at e1
      rw [List.getElem?_append_right (by rw [← r.len]; exact Nat.le_of_not_lt hp), ← r.len] at e2
      have e0 : p - ad.length = 0 := by
        have := (List.getElem?_eq_some_iff.mp e1).1
        simp at this
        omega
      rw [e0] at e1 e2
      simp at e1 e2
      subst e1 e2
      exact hc [a]
/-- a new object stands at a: data from now on -/
theorem RelS.newF (r : RelS K F ad S H) {a : Addr} {o : HO} (hn : H a = none) : RelS K (upd F a o) ad S (upd H a o) ∧ Step F ad H (upd F a o) ad (upd H a o) := by
  have na : a ∉ ad := fun h => by
    obtain ⟨u, e⟩ := r.there h
    rw [hn] at e; cases e
  have fa : F a = none := by
    cases q : F a with
    | none => rfl
    | some u => have := r.sub a u q; rw [hn] at this; cases this
  have st : Step F ad H (upd F a o) ad (upd H a o) := by
    refine ⟨fun b u h => by rw [upd_ne (ne_of_none h fa)]; exact h, fun b u h => ?_, ⟨[], by simp, fun _ h => by simp at h⟩, fun b u h _ => by rw [upd_ne (ne_of_none h hn)]; exact h, fun b h => ?_⟩
    · by_cases hb : b = a
      · rw [hb]; exact .inr (.inr hn)
      · rw [upd_ne hb] at h; exact .inl h
    · by_cases hb : b = a
      · rw [hb]; exact hn
      · rw [upd_ne hb] at h; exact h
  refine ⟨⟨fun b u h => ?_, r.nd, r.len, fun p b c e1 e2 => ?_⟩, st⟩
  · by_cases hb : b = a
    · rw [hb, upd_same] at h
      rw [hb, upd_same]; exact h
    · rw [upd_ne hb] at h
      rw [upd_ne hb]; exact r.sub b u h
  · have q := r.cells p b c e1 e2
    have hb : b ≠ a := fun e => na (e ▸ List.mem_of_getElem? e1)
    exact q.step st (fun u e => by rw [upd_ne hb]; exact e) fun h => by rw [upd_ne hb]; exact h
/-- the local object p is changed -/
theorem RelS.write (r : RelS K F ad S H) {p : Nat} {a : Addr} {o : HO} {c c₀ : Cell} (hp : ad[p]? = some a) (h0 : S[p]? = some c₀) (hF : F a = none) (hc : CellOk K F ad (upd H a o) a c) : RelS K F ad (S.set p c) (upd H a o) ∧ Step F ad H F ad (upd H a o) := by
  have ha : a ∈ ad := List.mem_of_getElem? hp
  have st : Step F ad H F ad (upd H a o) := by
    refine ⟨fun _ _ h => h, fun _ _ h => .inl h, ⟨[], by simp, fun _ h => by simp at h⟩, fun b u h hn => ?_, fun b h => ?_⟩
    · rw [upd_ne (fun (e : b = a) => hn (e ▸ ha))]; exact h
    · by_cases hb : b = a
      · rw [hb, upd_same] at h; cases h
      · rw [upd_ne hb] at h; exact h
  refine ⟨⟨fun b u h => ?_, r.nd, by simp [r.len], fun q b c' e1 e2 => ?_⟩, st⟩
  · rw [upd_ne (ne_of_none h hF)]; exact r.sub b u h
  · rw [List.getElem?_set] at e2
    by_cases hq : p = q
    · subst hq
      rw [if_pos rfl, if_pos (List.getElem?_eq_some_iff.mp h0).1] at e2
      cases e2
      rw [hp] at e1
      cases e1
      exact hc
    · rw [if_neg hq] at e2
      have qq := r.cells q b c' e1 e2
      have hb : b ≠ a := fun e => hq (nd_ix r.nd hp (e ▸ e1))
      exact qq.step st (fun u e => by rw [upd_ne hb]; exact e) fun h => h
/-- the local object p becomes data -/
theorem RelS.freeze (r : RelS K F ad S H) {p : Nat} {a : Addr} {o : HO} {d : D} {c₀ : Cell} (hp : ad[p]? = some a) (h0 : S[p]? = some c₀) (hF : F a = none) (hH : H a = some o) (hd : Rep K (upd F a o) (.ref a) d) : RelS K (upd F a o) ad (S.set p (.frz d)) H ∧ Step F ad H (upd F a o) ad H := by
  have ha : a ∈ ad := List.mem_of_getElem? hp
  have st : Step F ad H (upd F a o) ad H := by
    refine ⟨fun b u h => by rw [upd_ne (ne_of_none h hF)]; exact h, fun b u h => ?_, ⟨[], by simp, fun _ h => by simp at h⟩, fun _ _ h _ => h, fun _ h => h⟩
    by_cases hb : b = a
    · rw [hb]; exact .inr (.inl ha)
    · rw [upd_ne hb] at h; exact .inl h
  refine ⟨⟨fun b u h => ?_, r.nd, by simp [r.len], fun q b c' e1 e2 => ?_⟩, st⟩
  · by_cases hb : b = a
    · rw [hb, upd_same] at h
      rw [hb, hH]; exact h
    · rw [upd_ne hb] at h; exact r.sub b u h
  · rw [List.getElem?_set] at e2
    by_cases hq : p = q
    · subst hq
      rw [if_pos rfl, if_pos (List.getElem?_eq_some_iff.mp h0).1] at e2
      cases e2
      rw [hp] at e1
      cases e1
      exact ⟨hd, o, hH⟩
    · rw [if_neg hq] at e2
      have qq := r.cells q b c' e1 e2
      have hb : b ≠ a := fun e => hq (nd_ix r.nd hp (e ▸ e1))
      exact qq.step st (fun u e => e) fun h => by rw [upd_ne hb]; exact h
end
end FL
/-! FL: the functional readings. -/
namespace FL
open PySem PySem.Spec PyProof.Rows L2
abbrev EF := Sg → Cs → Option (T × Cs)
abbrev BF := Sg → Cs → Option (Bool × Cs)
abbrev AF := Sg → Cs → Option (List T × Cs)
inductive Fl where
  | nx | bk | ct | rt (t : T)
abbrev SF := Sg → Cs → Option (Fl × Sg × Cs)

structure Go (K : Frg) (F : Hp) (ad : List Addr) (H F' : Hp) (ad' : List Addr) (H' : Hp) (S' : Cs) : Prop where
  st : Step F ad H F' ad' H'
  rel : RelS K F' ad' S' H'
theorem Go.trans {K : Frg} {F F' F'' : Hp} {ad ad' ad'' : List Addr} {H H' H'' : Hp} {S' S'' : Cs} (a : Go K F ad H F' ad' H' S') (b : Go K F' ad' H' F'' ad'' H'' S'') : Go K F ad H F'' ad'' H'' S'' := ⟨a.st.trans b.st, b.rel⟩
theorem Go.refl {K : Frg} {F : Hp} {ad : List Addr} {H : Hp} {S : Cs} (r : RelS K F ad S H) : Go K F ad H F ad H S := ⟨.refl, r⟩

def tE (K : Frg) (f : EF) : TE := fun τ H Q => ∃ F ad σ S t S', RelS K F ad S H ∧ SlotsOk K F ad σ τ ∧ f σ S = some (t, S') ∧
  ∀ F' ad' H' v, Go K F ad H F' ad' H' S' → RepT K F' ad' v t → Q v H'
def tB (K : Frg) (f : BF) : TT := fun τ H Q => ∃ F ad σ S b S', RelS K F ad S H ∧ SlotsOk K F ad σ τ ∧ f σ S = some (b, S') ∧
  ∀ F' ad' H', Go K F ad H F' ad' H' S' → Q b H'
def tA (K : Frg) (f : AF) : TA := fun τ H Q => ∃ F ad σ S ts S', RelS K F ad S H ∧ SlotsOk K F ad σ τ ∧ f σ S = some (ts, S') ∧
  ∀ F' ad' H' vs, Go K F ad H F' ad' H' S' → RepTs K F' ad' vs ts → Q vs H'
/-- what is wanted behind a statement -/
def Fin (K : Frg) (F : Hp) (ad : List Addr) (H : Hp) (D : Ends) (o : Fl × Sg × Cs) : Prop :=
  match o.1 with
  | .nx => ∀ F' ad' H' τ', Go K F ad H F' ad' H' o.2.2 → SlotsOk K F' ad' o.2.1 τ' → D.nx τ' H'
  | .bk => ∀ F' ad' H' τ', Go K F ad H F' ad' H' o.2.2 → SlotsOk K F' ad' o.2.1 τ' → D.bk τ' H'
  | .ct => ∀ F' ad' H' τ', Go K F ad H F' ad' H' o.2.2 → SlotsOk K F' ad' o.2.1 τ' → D.ct τ' H'
  | .rt t => ∀ F' ad' H' v, Go K F ad H F' ad' H' o.2.2 → RepT K F' ad' v t → D.rt v H'
def tS (K : Frg) (f : SF) : TS := fun D τ H => ∃ F ad σ S o, RelS K F ad S H ∧ SlotsOk K F ad σ τ ∧ f σ S = some o ∧ Fin K F ad H D o
def FE (X : Cx) (e : Expr) (f : EF) : Prop := PE X e (tE X.K f)
def FB (X : Cx) (e : Expr) (f : BF) : Prop := PT X e (tB X.K f)
def FW (X : Cx) (e : Expr) (f : BF) : Prop := PW X e (tB X.K f)
def FA (X : Cx) (es : List Expr) (f : AF) : Prop := PA X es (tA X.K f)
def FS (X : Cx) (st : Stmt) (f : SF) : Prop := PS X st (tS X.K f)
def FSs (X : Cx) (st : List Stmt) (f : SF) : Prop := PSs X st (tS X.K f)
theorem PE.imp {X : Cx} {e : Expr} {t t' : TE} (h : PE X e t) (w : ∀ τ H Q, t' τ H Q → t τ H Q) : PE X e t' := ⟨fun pins s σ H Q I q => h.run pins s σ H Q I (w _ _ _ q)⟩
theorem PT.imp {X : Cx} {e : Expr} {t t' : TT} (h : PT X e t) (w : ∀ τ H Q, t' τ H Q → t τ H Q) : PT X e t' := ⟨fun pins s σ H Q I q => h.run pins s σ H Q I (w _ _ _ q)⟩
theorem PW.imp {X : Cx} {e : Expr} {t t' : TT} (h : PW X e t) (w : ∀ τ H Q, t' τ H Q → t τ H Q) : PW X e t' := ⟨fun wh pins s σ H Q I q => h.run wh pins s σ H Q I (w _ _ _ q)⟩
theorem PA.imp {X : Cx} {e : List Expr} {t t' : TA} (h : PA X e t) (w : ∀ τ H Q, t' τ H Q → t τ H Q) : PA X e t' := ⟨fun pos pins s σ H Q I q => h.run pos pins s σ H Q I (w _ _ _ q)⟩
theorem PS.imp {X : Cx} {e : Stmt} {t t' : TS} (h : PS X e t) (w : ∀ D τ H, t' D τ H → t D τ H) : PS X e t' := ⟨fun pins s σ H Q I q => h.run pins s σ H Q I (w _ _ _ q)⟩
theorem PSs.imp {X : Cx} {e : List Stmt} {t t' : TS} (h : PSs X e t) (w : ∀ D τ H, t' D τ H → t D τ H) : PSs X e t' := ⟨fun pins s σ H Q I q => h.run pins s σ H Q I (w _ _ _ q)⟩
theorem OpR.imp {X : Cx} {f : Value → Value → Sem Value} {r r' : R2} (h : OpR X f r) (w : ∀ x y H Q, r' x y H Q → r x y H Q) : OpR X f r' := fun pins s σ H Q x y v u I rx ry q => h pins s σ H Q x y v u I rx ry (w _ _ _ _ q)

theorem bind_some {α β : Type} {x : Option α} {f : α → Option β} {b : β} (h : x.bind f = some b) : ∃ a, x = some a ∧ f a = some b := by
  cases x with
  | none => cases h
  | some a => exact ⟨a, rfl, h⟩

section
variable {X : Cx}
/-! ### names, constants -/
def cV (i : Nat) : EF := fun σ S => match σ[i]? with
  | some (some t) => some (t, S)
  | _ => none
theorem fv (i : Nat) {x : Str} {pos : Pos} (hN : X.N[i]? = some x := by rfl) (hv : Vis X.env.scope x := by first | exact Or.inl rfl | exact Or.inr (Or.inl rfl) | exact Or.inr (Or.inr rfl)) (hd : (x == ("__debug__" : Str)) = false := by decide)
    (hcd : (x == ("__classdict__" : Str)) = false := by decide) : FE X (.Name x pos) (cV i) := by
  refine PE.imp (pe_var hN hv hd hcd) fun τ H Q ⟨F, ad, σ, S, t, S', r, so, e, k⟩ => ?_
  unfold cV at e
  split at e
  · rename_i u hu
    cases e
    obtain ⟨v, h1, h2⟩ := so.2 i _ hu
    exact ⟨v, h1, k F ad H v (.refl r) h2⟩
  · cases e
def cK (d : D) : EF := fun _ S => some (.d d, S)
theorem fe_K {e : Expr} {v : V} {d : D} (h : PE X e (tC v)) (hd : ∀ K F, Rep K F v d) : FE X e (cK d) :=
  PE.imp h fun τ H Q ⟨F, ad, σ, S, t, S', r, so, e, k⟩ => by
    cases e
    exact k F ad H v (.refl r) (hd _ _)
theorem fe_int {i j pos} : FE X (.Constant (.int i) j pos) (cK (.int i)) := fe_K pe_int fun _ _ => .int i
theorem fe_bl {b j pos} : FE X (.Constant (.bool b) j pos) (cK (.bl b)) := fe_K pe_bl fun _ _ => .bl b
theorem fe_non {j pos} : FE X (.Constant .none j pos) (cK .non) := fe_K pe_non fun _ _ => .non
theorem fe_str {x j pos} : FE X (.Constant (.str x) j pos) (cK (.str x)) := fe_K pe_str fun _ _ => .str x
theorem fe_gint {x : Str} {i : Int} {u : Value} {pos : Pos} (hg : Gl X x) (hm : X.mg x = some u) (r : RelV (.int i) u) (hd : (x == ("__debug__" : Str)) = false := by decide) : FE X (.Name x pos) (cK (.int i)) := fe_K (pe_glob hg hm r hd) fun _ _ => .int i

/-! ### operators of two values -/
abbrev OF := T → T → Cs → Option (T × Cs)
def r2 (K : Frg) (g : OF) : R2 := fun x y H Q => ∃ F ad S tx ty t S', RelS K F ad S H ∧ RepT K F ad x tx ∧ RepT K F ad y ty ∧ g tx ty S = some (t, S') ∧
  ∀ F' ad' H' v, Go K F ad H F' ad' H' S' → RepT K F' ad' v t → Q v H'
def OpF (X : Cx) (f : Value → Value → Sem Value) (g : OF) : Prop := OpR X f (r2 X.K g)
def cBin (g : OF) (fa fb : EF) : EF := fun σ S => (fa σ S).bind fun p => (fb σ p.2).bind fun q => g p.1 q.1 q.2
theorem two {fa fb : EF} {g : OF} {τ : L2.St} {H : Hp} {Q : VK} (h : tE X.K (cBin g fa fb) τ H Q) : tE X.K fa τ H fun x H1 => tE X.K fb τ H1 fun y H2 => r2 X.K g x y H2 Q := by
  obtain ⟨F, ad, σ, S, t, S', r, so, e, k⟩ := h
  obtain ⟨⟨tx, S1⟩, e1, e⟩ := bind_some e
  obtain ⟨⟨ty, S2⟩, e2, e⟩ := bind_some e
  exact ⟨F, ad, σ, S, tx, S1, r, so, e1, fun F1 ad1 H1 v g1 rx => ⟨F1, ad1, σ, S1, ty, S2, g1.rel, so.step g1.st, e2, fun F2 ad2 H2 w g2 ry =>
    ⟨F2, ad2, S2, tx, ty, t, S', g2.rel, rx.step g2.st, ry, e, fun F3 ad3 H3 u g3 ru => k F3 ad3 H3 u ((g1.trans g2).trans g3) ru⟩⟩⟩
variable {a b : Expr} {fa fb : EF} {pos : Pos}
theorem fe_op {op : Operator} {g : OF} (ho : OpF X (binaryOp op) g) (ha : FE X a fa) (hb : FE X b fb) : FE X (.BinOp a op b pos) (cBin g fa fb) :=
  PE.imp (pe_op ho ha hb) fun _ _ _ h => two h
theorem fe_cmp {op : CmpOp} {g : OF} (ho : OpF X (compareOp op) g) (ha : FE X a fa) (hb : FE X b fb) (hm : behindInMarks op b = false) : FE X (.Compare a [op] [b] pos) (cBin g fa fb) :=
  PE.imp (pe_cmpR ho ha hb hm) fun _ _ _ h => two h
/-! ### tests -/
def cB (f : EF) : BF := fun σ S => (f σ S).bind fun p => match p.1 with
  | .d (.bl b) => some (b, p.2)
  | _ => none
theorem RepT.bl {K : Frg} {F : Hp} {ad : List Addr} {v : V} {b : Bool} (r : RepT K F ad v (.d (.bl b))) : v = .bl b := by
  cases (show Rep K F v (.bl b) from r); rfl
theorem RepT.int {K : Frg} {F : Hp} {ad : List Addr} {v : V} {b : Int} (r : RepT K F ad v (.d (.int b))) : v = .int b := by
  cases (show Rep K F v (.int b) from r); rfl
theorem RepT.str {K : Frg} {F : Hp} {ad : List Addr} {v : V} {b : Str} (r : RepT K F ad v (.d (.str b))) : v = .str b := by
  cases (show Rep K F v (.str b) from r); rfl
theorem RepT.non {K : Frg} {F : Hp} {ad : List Addr} {v : V} (r : RepT K F ad v (.d .non)) : v = .non := by
  cases (show Rep K F v .non from r); rfl
theorem toB {f : EF} {τ : L2.St} {H : Hp} {Q : Bool → Hp → Prop} (h : tB X.K (cB f) τ H Q) : tE X.K f τ H fun x H1 => ∃ c, x = .bl c ∧ Q c H1 := by
  obtain ⟨F, ad, σ, S, b, S', r, so, e, k⟩ := h
  obtain ⟨⟨t, S1⟩, e1, e⟩ := bind_some e
  refine ⟨F, ad, σ, S, t, S1, r, so, e1, fun F1 ad1 H1 v g1 rx => ?_⟩
  simp only at e
  split at e
  · cases e
    exact ⟨b, rx.bl, k F1 ad1 H1 g1⟩
  · cases e
theorem fb_cmp {op : CmpOp} {g : OF} (ho : OpF X (compareOp op) g) (ha : FE X a fa) (hb : FE X b fb) (hm : behindInMarks op b = false) : FB X (.Compare a [op] [b] pos) (cB (cBin g fa fb)) :=
  PT.imp (pt_cmpR ho ha hb hm) fun τ H Q h => two (toB h)
theorem fb_val {e : Expr} {f : EF} (h : FE X e f) (he : ∀ whole, isTrue e X.env whole = (do let v ← whole; standAt e.pos; holding [v] (truthy v)) := by intro _; rfl) : FB X e (cB f) :=
  PT.imp (pt_val h he) fun τ H Q h => toB h
def cAnd (f g : BF) : BF := fun σ S => (f σ S).bind fun p => if p.1 = true then g σ p.2 else some (false, p.2)
def cOr (f g : BF) : BF := fun σ S => (f σ S).bind fun p => if p.1 = true then some (true, p.2) else g σ p.2
def cNot (f : BF) : BF := fun σ S => (f σ S).map fun p => (!p.1, p.2)
variable {fA fB : BF} {rest : List Expr}
theorem fw_and1 (ha : FB X a fA) : FW X (.BoolOp .And [a] pos) fA := pw_and1 ha
theorem fw_or1 (ha : FB X a fA) : FW X (.BoolOp .Or [a] pos) fA := pw_or1 ha
theorem fw_and (ha : FB X a fA) (hb : FW X (.BoolOp .And (b :: rest) pos) fB) : FW X (.BoolOp .And (a :: b :: rest) pos) (cAnd fA fB) := by
  refine PW.imp (pw_and ha hb) fun τ H Q ⟨F, ad, σ, S, c, S', r, so, e, k⟩ => ?_
  obtain ⟨⟨c1, S1⟩, e1, e⟩ := bind_some e
  refine ⟨F, ad, σ, S, c1, S1, r, so, e1, fun F1 ad1 H1 g1 => ?_⟩
  cases c1 with
  | false => cases e; exact k F1 ad1 H1 g1
  | true => exact ⟨F1, ad1, σ, S1, c, S', g1.rel, so.step g1.st, e, fun F2 ad2 H2 g2 => k F2 ad2 H2 (g1.trans g2)⟩
theorem fw_or (ha : FB X a fA) (hb : FW X (.BoolOp .Or (b :: rest) pos) fB) : FW X (.BoolOp .Or (a :: b :: rest) pos) (cOr fA fB) := by
  refine PW.imp (pw_or ha hb) fun τ H Q ⟨F, ad, σ, S, c, S', r, so, e, k⟩ => ?_
  obtain ⟨⟨c1, S1⟩, e1, e⟩ := bind_some e
  refine ⟨F, ad, σ, S, c1, S1, r, so, e1, fun F1 ad1 H1 g1 => ?_⟩
  cases c1 with
  | true => cases e; exact k F1 ad1 H1 g1
  | false => exact ⟨F1, ad1, σ, S1, c, S', g1.rel, so.step g1.st, e, fun F2 ad2 H2 g2 => k F2 ad2 H2 (g1.trans g2)⟩
theorem fb_w {e : Expr} (h : FW X e fA) : FB X e fA := L2.PW.pt h
theorem fb_not (ha : FB X a fA) : FB X (.UnaryOp .Not a pos) (cNot fA) := by
  refine PT.imp (pt_not ha) fun τ H Q ⟨F, ad, σ, S, c, S', r, so, e, k⟩ => ?_
  obtain ⟨⟨c1, S1⟩, e1, e⟩ := Option.map_eq_some_iff.mp e
  cases e
  exact ⟨F, ad, σ, S, c1, S1, r, so, e1, fun F1 ad1 H1 g1 => k F1 ad1 H1 g1⟩
/-! ### and, or, not as values of bools; a if t else b -/
def cBV (f : BF) : EF := fun σ S => (f σ S).map fun p => (.d (.bl p.1), p.2)
def cAndV (f g : EF) : EF := fun σ S => (cB f σ S).bind fun p => if p.1 = true then g σ p.2 else some (.d (.bl false), p.2)
def cOrV (f g : EF) : EF := fun σ S => (cB f σ S).bind fun p => if p.1 = true then some (.d (.bl true), p.2) else g σ p.2
theorem fe_one {op} (h : FE X a fa) : FE X (.BoolOp op [a] pos) fa := pe_one h
theorem fe_and (ha : FE X a fa) (hb : FE X (.BoolOp .And (b :: rest) pos) fb) : FE X (.BoolOp .And (a :: b :: rest) pos) (cAndV fa fb) := by
  refine PE.imp (pe_and ha hb) fun τ H Q ⟨F, ad, σ, S, t, S', r, so, e, k⟩ => ?_
  obtain ⟨⟨c1, S1⟩, e1, e⟩ := bind_some e
  refine toB ⟨F, ad, σ, S, c1, S1, r, so, e1, fun F1 ad1 H1 g1 => ?_⟩
  cases c1 with
  | false => cases e; exact k F1 ad1 H1 _ g1 (Rep.bl _)
  | true => exact ⟨F1, ad1, σ, S1, t, S', g1.rel, so.step g1.st, e, fun F2 ad2 H2 v g2 rv => k F2 ad2 H2 v (g1.trans g2) rv⟩
theorem fe_or (ha : FE X a fa) (hb : FE X (.BoolOp .Or (b :: rest) pos) fb) : FE X (.BoolOp .Or (a :: b :: rest) pos) (cOrV fa fb) := by
  refine PE.imp (pe_or ha hb) fun τ H Q ⟨F, ad, σ, S, t, S', r, so, e, k⟩ => ?_
  obtain ⟨⟨c1, S1⟩, e1, e⟩ := bind_some e
  refine toB ⟨F, ad, σ, S, c1, S1, r, so, e1, fun F1 ad1 H1 g1 => ?_⟩
  cases c1 with
  | true => cases e; exact k F1 ad1 H1 _ g1 (Rep.bl _)
  | false => exact ⟨F1, ad1, σ, S1, t, S', g1.rel, so.step g1.st, e, fun F2 ad2 H2 v g2 rv => k F2 ad2 H2 v (g1.trans g2) rv⟩
theorem fe_not (ha : FE X a fa) : FE X (.UnaryOp .Not a pos) (cBV (cNot (cB fa))) := by
  refine PE.imp (pe_not ha) fun τ H Q ⟨F, ad, σ, S, t, S', r, so, e, k⟩ => ?_
  obtain ⟨⟨c2, S2⟩, e2, e⟩ := Option.map_eq_some_iff.mp e
  obtain ⟨⟨c1, S1⟩, e1, e2⟩ := Option.map_eq_some_iff.mp e2
  cases e2
  cases e
  exact toB ⟨F, ad, σ, S, c1, S1, r, so, e1, fun F1 ad1 H1 g1 => k F1 ad1 H1 _ g1 (Rep.bl _)⟩
def cIf (f : BF) (g h : EF) : EF := fun σ S => (f σ S).bind fun p => if p.1 = true then g σ p.2 else h σ p.2
theorem fe_if {c : Expr} (hc : FB X c fA) (ha : FE X a fa) (hb : FE X b fb) : FE X (.IfExp c a b pos) (cIf fA fa fb) := by
  refine PE.imp (pe_ifExp hc ha hb) fun τ H Q ⟨F, ad, σ, S, t, S', r, so, e, k⟩ => ?_
  obtain ⟨⟨c1, S1⟩, e1, e⟩ := bind_some e
  refine ⟨F, ad, σ, S, c1, S1, r, so, e1, fun F1 ad1 H1 g1 => ?_⟩
  cases c1 with
  | true => exact ⟨F1, ad1, σ, S1, t, S', g1.rel, so.step g1.st, e, fun F2 ad2 H2 v g2 rv => k F2 ad2 H2 v (g1.trans g2) rv⟩
  | false => exact ⟨F1, ad1, σ, S1, t, S', g1.rel, so.step g1.st, e, fun F2 ad2 H2 v g2 rv => k F2 ad2 H2 v (g1.trans g2) rv⟩
/-! ### argument lists -/
def aNil : AF := fun _ S => some ([], S)
def aCons (f : EF) (g : AF) : AF := fun σ S => (f σ S).bind fun p => (g σ p.2).map fun q => (p.1 :: q.1, q.2)
variable {e : Expr} {es : List Expr} {fs : AF}
theorem fa_nil : FA X [] aNil := PA.imp pa_nil fun τ H Q ⟨F, ad, σ, S, t, S', r, so, e, k⟩ => by
  cases e
  exact k F ad H [] (.refl r) .nil
theorem fa_cons (ha : FE X e fa) (hr : FA X es fs) (hs : starEach (e :: es) X.env = (false, eval e X.env) :: starEach es X.env := by rfl) : FA X (e :: es) (aCons fa fs) := by
  refine PA.imp (pa_cons ha hr hs) fun τ H Q ⟨F, ad, σ, S, ts, S', r, so, e, k⟩ => ?_
  obtain ⟨⟨tx, S1⟩, e1, e⟩ := bind_some e
  obtain ⟨⟨tr, S2⟩, e2, e⟩ := Option.map_eq_some_iff.mp e
  cases e
  exact ⟨F, ad, σ, S, tx, S1, r, so, e1, fun F1 ad1 H1 v g1 rx => ⟨F1, ad1, σ, S1, tr, S2, g1.rel, so.step g1.st, e2, fun F2 ad2 H2 vs g2 rs => k F2 ad2 H2 (v :: vs) (g1.trans g2) (.cons (rx.step g2.st) rs)⟩⟩

/-! ### data out of local objects -/
/-- each item by f, from the left -/
def mapS {α : Type} (f : T → Cs → Option (D × Cs)) (key : α → T) : List α → Cs → Option (List D × Cs)
  | [], S => some ([], S)
  | a :: l, S => (f (key a) S).bind fun p => (mapS f key l p.2).map fun q => (p.1 :: q.1, q.2)
def isFrz : Option Cell → Bool
  | some (.frz _) => true
  | none => true
  | _ => false
def toD : Nat → T → Cs → Option (D × Cs)
  | _, .d d, S => some (d, S)
  | 0, .own _, _ => none
  | n + 1, .own p, S => match S[p]? with
    | some (.frz d) => some (d, S)
    | some (.lst ts) => (mapS (toD n) id ts S).bind fun q => if isFrz q.2[p]? = true then none else some (.lst q.1, q.2.set p (.frz (.lst q.1)))
    | some (.ins c fs) => (mapS (toD n) (·.2) fs S).bind fun q => if isFrz q.2[p]? = true then none else some (.obj c ((fs.map (·.1)).zip q.1), q.2.set p (.frz (.obj c ((fs.map (·.1)).zip q.1))))
    | none => none
/-- nothing of the machine's heap moves -/
structure Still (K : Frg) (F : Hp) (ad : List Addr) (H F' : Hp) (S' : Cs) : Prop where
  st : Step F ad H F' ad H
  rel : RelS K F' ad S' H
theorem Still.go {K : Frg} {F : Hp} {ad : List Addr} {H F' : Hp} {S' : Cs} (h : Still K F ad H F' S') : Go K F ad H F' ad H S' := ⟨h.st, h.rel⟩
theorem mapS_ok {α : Type} {K : Frg} {f : T → Cs → Option (D × Cs)} {key : α → T}
    (hf : ∀ t S d S' F ad H v, RelS K F ad S H → RepT K F ad v t → f t S = some (d, S') → ∃ F', Still K F ad H F' S' ∧ Rep K F' v d) :
    ∀ (l : List α) (S : Cs) (ds : List D) (S' : Cs) (F : Hp) (ad : List Addr) (H : Hp) (vs : List V), RelS K F ad S H → RepTs K F ad vs (l.map key) → mapS f key l S = some (ds, S') → ∃ F', Still K F ad H F' S' ∧ Reps K F' vs ds
  | [], S, ds, S', F, ad, H, vs, r, q, e => by
    cases e
    cases q
    exact ⟨F, ⟨.refl, r⟩, .nil⟩
  | a :: l, S, ds, S', F, ad, H, vs, r, q, e => by
    obtain ⟨⟨d1, S1⟩, e1, e⟩ := bind_some e
    obtain ⟨⟨dr, S2⟩, e2, e⟩ := Option.map_eq_some_iff.mp e
    cases e
    cases q with
    | cons q1 qr =>
      obtain ⟨F1, g1, p1⟩ := hf _ _ _ _ F ad H _ r q1 e1
      obtain ⟨F2, g2, p2⟩ := mapS_ok hf l S1 dr S2 F1 ad H _ g1.rel (RepTs.step g1.st qr) e2
      exact ⟨F2, ⟨g1.st.trans g2.st, g2.rel⟩, .cons (p1.mono g2.st.fsub) p2⟩
theorem RelS.notF {K : Frg} {F : Hp} {ad : List Addr} {S : Cs} {H : Hp} (r : RelS K F ad S H) {p : Nat} {a : Addr} (hp : ad[p]? = some a) (h : isFrz S[p]? ≠ true) : F a = none ∧ ∃ c, S[p]? = some c := by
  cases q : S[p]? with
  | none => rw [q] at h; exact absurd rfl h
  | some c =>
    rw [q] at h
    have z := r.cells p a c hp q
    cases c with
    | lst ts => exact ⟨z.1, _, rfl⟩
    | ins c fs => exact ⟨z.1, _, rfl⟩
    | frz d => exact absurd rfl h
theorem repF_zip {K : Frg} {F : Hp} {ad : List Addr} : ∀ {fvs : List (Str × V)} {fs : List (Str × T)} {ds : List D}, RepTF K F ad fvs fs → ∀ {F' : Hp}, Reps K F' (fvs.map (·.2)) ds → RepF K F' fvs ((fs.map (·.1)).zip ds)
  | _, _, _, .nil, _, .nil => .nil
  | (f, v) :: fvs, (g, t) :: fs, _, .cons q r, _, .cons q1 r1 => by
    have e : f = g := q.1
    subst e
    exact .cons q1 (repF_zip r r1)
theorem RepTF.vals {K : Frg} {F : Hp} {ad : List Addr} : ∀ {fvs : List (Str × V)} {fs : List (Str × T)}, RepTF K F ad fvs fs → RepTs K F ad (fvs.map (·.2)) (fs.map (·.2))
  | _, _, .nil => .nil
  | _, _, .cons q r => .cons q.2 (RepTF.vals r)
theorem toD_ok {K : Frg} : ∀ (n : Nat) (t : T) (S : Cs) (d : D) (S' : Cs) (F : Hp) (ad : List Addr) (H : Hp) (v : V), RelS K F ad S H → RepT K F ad v t → toD n t S = some (d, S') → ∃ F', Still K F ad H F' S' ∧ Rep K F' v d := by
  intro n
  induction n with
  | zero =>
    intro t S d S' F ad H v r q e
    cases t with
    | d d0 =>
      have e' : some (d0, S) = some (d, S') := by
        unfold toD at e; exact e
      cases e'
      exact ⟨F, ⟨.refl, r⟩, q⟩
    | own p => unfold toD at e; cases e
  | succ n ih =>
    intro t S d S' F ad H v r q e
    cases t with
    | d d0 =>
      have e' : some (d0, S) = some (d, S') := by
        unfold toD at e; exact e
      cases e'
      exact ⟨F, ⟨.refl, r⟩, q⟩
    | own p =>
      obtain ⟨a, hp, rfl⟩ := q
      unfold toD at e
      split at e
      · rename_i d0 h0
        cases e
        exact ⟨F, ⟨.refl, r⟩, (r.cells p a _ hp h0).1⟩
      · rename_i ts h0
        obtain ⟨_, vs, hH, rs⟩ := r.cells p a _ hp h0
        obtain ⟨⟨ds, S1⟩, e1, e⟩ := bind_some e
        obtain ⟨F1, g1, p1⟩ := mapS_ok (K := K) ih ts S ds S1 F ad H vs r (by rw [List.map_id]; exact rs) e1
        simp only at e
        split at e
        · cases e
        · rename_i hz
          cases e
          obtain ⟨nF, c1, hc1⟩ := g1.rel.notF hp hz
          have hd : Rep K (upd F1 a (.lst vs)) (.ref a) (.lst ds) := .lst upd_same (p1.mono fun b o h => by rw [upd_ne (ne_of_none h nF)]; exact h)
          obtain ⟨r2, s2⟩ := g1.rel.freeze hp hc1 nF hH hd
          exact ⟨_, ⟨g1.st.trans s2, r2⟩, hd⟩
      · rename_i c fs h0
        obtain ⟨_, dx, fvs, hH, rs⟩ := r.cells p a _ hp h0
        obtain ⟨⟨ds, S1⟩, e1, e⟩ := bind_some e
        obtain ⟨F1, g1, p1⟩ := mapS_ok (K := K) ih fs S ds S1 F ad H (fvs.map (·.2)) r rs.vals e1
        simp only at e
        split at e
        · cases e
        · rename_i hz
          cases e
          obtain ⟨nF, c1, hc1⟩ := g1.rel.notF hp hz
          have hd : Rep K (upd F1 a (.ins (He.ga K c) dx fvs)) (.ref a) (.obj c ((fs.map (·.1)).zip ds)) := .obj upd_same (repF_zip rs (p1.mono fun b o h => by rw [upd_ne (ne_of_none h nF)]; exact h))
          obtain ⟨r2, s2⟩ := g1.rel.freeze hp hc1 nF hH hd
          exact ⟨_, ⟨g1.st.trans s2, r2⟩, hd⟩
      · cases e
/-- the depth that is looked into -/
abbrev dep : Nat := 4
def toDs (ts : List T) (S : Cs) : Option (List D × Cs) := mapS (toD dep) id ts S
theorem toDs_ok {K : Frg} {ts : List T} {S : Cs} {ds : List D} {S' : Cs} {F : Hp} {ad : List Addr} {H : Hp} {vs : List V} (r : RelS K F ad S H) (q : RepTs K F ad vs ts) (e : toDs ts S = some (ds, S')) : ∃ F', Still K F ad H F' S' ∧ Reps K F' vs ds :=
  mapS_ok (toD_ok dep) ts S ds S' F ad H vs r (by rw [List.map_id]; exact q) e

/-! ### displays -/
/-- (a, b, ..): data -/
def cTup (f : AF) : EF := fun σ S => (f σ S).bind fun p => if p.1.length ≤ sizeLine then (toDs p.1 p.2).map fun q => (.d (.tup q.1), q.2) else none
theorem fe_tup {x1} (h : FA X es fs) : FE X (.Tuple es x1 pos) (cTup fs) := by
  refine PE.imp (pe_tup h) fun τ H Q ⟨F, ad, σ, S, t, S', r, so, e, k⟩ => ?_
  obtain ⟨⟨ts, S1⟩, e1, e⟩ := bind_some e
  refine ⟨F, ad, σ, S, ts, S1, r, so, e1, fun F1 ad1 H1 vs g1 rs => ?_⟩
  simp only at e
  split at e
  · rename_i hz
    obtain ⟨⟨ds, S2⟩, e2, e⟩ := Option.map_eq_some_iff.mp e
    cases e
    refine ⟨by rw [Paired.length rs]; exact hz, fun p hp => ?_⟩
    obtain ⟨F2, g2, rd⟩ := toDs_ok g1.rel rs e2
    obtain ⟨r3, s3⟩ := g2.rel.newF (o := .tup vs) hp
    exact k _ ad1 _ _ ⟨g1.st.trans (g2.st.trans s3), r3⟩ (Rep.tup (.of upd_same) (rd.mono s3.fsub))
  · cases e
/-- [a, b, ..]: a local object -/
def cLst (f : AF) : EF := fun σ S => (f σ S).bind fun p => if p.1.length ≤ sizeLine then some (.own p.2.length, p.2 ++ [.lst p.1]) else none
theorem RelS.fresh {K : Frg} {F : Hp} {ad : List Addr} {S : Cs} {H : Hp} (r : RelS K F ad S H) {a : Addr} (hn : H a = none) : F a = none := by
  cases q : F a with
  | none => rfl
  | some u => have := r.sub a u q; rw [hn] at this; cases this
theorem new_lst {K : Frg} {F : Hp} {ad : List Addr} {S : Cs} {H : Hp} {a : Addr} {vs : List V} {ts : List T} (r : RelS K F ad S H) (hn : H a = none) (q : RepTs K F ad vs ts) :
    Go K F ad H F (ad ++ [a]) (upd H a (.lst vs)) (S ++ [.lst ts]) ∧ RepT K F (ad ++ [a]) (.ref a) (.own S.length) := by
  obtain ⟨r2, s2⟩ := r.new (o := .lst vs) hn (c := .lst ts) fun l => ⟨r.fresh hn, vs, upd_same, Paired.mapP q fun _ t z => RepT.mono (fun _ _ h => h) t z⟩
  exact ⟨⟨s2, r2⟩, a, by rw [← r.len, List.getElem?_append_right (Nat.le_refl _)]; simp, rfl⟩
theorem fe_lst (h : FA X es fs) : FE X (.List es pos) (cLst fs) := by
  refine PE.imp (pe_lst h) fun τ H Q ⟨F, ad, σ, S, t, S', r, so, e, k⟩ => ?_
  obtain ⟨⟨ts, S1⟩, e1, e⟩ := bind_some e
  refine ⟨F, ad, σ, S, ts, S1, r, so, e1, fun F1 ad1 H1 vs g1 rs => ?_⟩
  simp only at e
  split at e
  · rename_i hz
    cases e
    refine ⟨by rw [Paired.length rs]; exact hz, fun p hp => ?_⟩
    obtain ⟨g2, q2⟩ := new_lst g1.rel hp rs
    exact k _ _ _ _ (g1.trans g2) q2
  · cases e
end
end FL
/-! FL: operators, subscripts, calls. -/
namespace FL
open PySem PySem.Spec PyProof.Rows L2
def asI : T → Option Int
  | .d (.int i) => some i
  | _ => none
def asS : T → Option Str
  | .d (.str i) => some i
  | _ => none
def deref (t : T) (S : Cs) : T := match t with
  | .own p => (match S[p]? with
    | some (.frz d) => .d d
    | _ => .own p)
  | t => t
/-- what a sequence holds; true: a tuple -/
def seqOf (t : T) (S : Cs) : Option (Bool × List T) := match deref t S with
  | .d (.tup ds) => some (true, ds.map .d)
  | .d (.lst ds) => some (false, ds.map .d)
  | .d (.scr ns) => some (false, ns.map fun i => .d (.int i))
  | .own p => (match S[p]? with
    | some (.lst ts) => some (false, ts)
    | _ => none)
  | _ => none
/-- what a list (not the script) holds -/
def lstOf (t : T) (S : Cs) : Option (List T) := match deref t S with
  | .d (.lst ds) => some (ds.map .d)
  | .own p => (match S[p]? with
    | some (.lst ts) => some ts
    | _ => none)
  | _ => none
section
variable {K : Frg} {F : Hp} {ad : List Addr} {S : Cs} {H : Hp} {v : V}
theorem asI_ok {t : T} {i : Int} (e : asI t = some i) (r : RepT K F ad v t) : v = .int i := by
  unfold asI at e
  split at e
  · cases e; exact r.int
  · cases e
theorem asS_ok {t : T} {i : Str} (e : asS t = some i) (r : RepT K F ad v t) : v = .str i := by
  unfold asS at e
  split at e
  · cases e; exact r.str
  · cases e
theorem deref_ok {t : T} (g : RelS K F ad S H) (r : RepT K F ad v t) : RepT K F ad v (deref t S) := by
  cases t with
  | d d => exact r
  | own p =>
    obtain ⟨a, hp, rfl⟩ := r
    unfold deref
    simp only
    split
    · rename_i d h0
      exact (g.cells p a _ hp h0).1
    · exact ⟨a, hp, rfl⟩
theorem scr_ts : ∀ (ns : List Int), RepTs K F ad (ns.map V.int) (ns.map fun i => T.d (.int i))
  | [] => .nil
  | i :: ns => .cons (Rep.int i) (scr_ts ns)
theorem seqOf_ok {t : T} {b : Bool} {ts : List T} (g : RelS K F ad S H) (r : RepT K F ad v t) (e : seqOf t S = some (b, ts)) :
    ∃ a vs, v = .ref a ∧ (b = true → SqT K F a vs) ∧ (b = true → SqT K H a vs) ∧ (b = false → SqL K H a vs) ∧ RepTs K F ad vs ts := by
  have r := deref_ok g r
  unfold seqOf at e
  split at e
  · rename_i ds h0
    rw [h0] at r
    cases e
    cases (show Rep K F v (.tup ds) from r) with
    | tup q rs => exact ⟨_, _, rfl, fun _ => q, fun _ => SqT.sub g.sub q, fun z => (Bool.noConfusion z), rs.ts⟩
  · rename_i ds h0
    rw [h0] at r
    cases e
    cases (show Rep K F v (.lst ds) from r) with
    | lst q rs => exact ⟨_, _, rfl, fun z => (Bool.noConfusion z), fun z => (Bool.noConfusion z), fun _ => .of (g.sub _ _ q), rs.ts⟩
  · rename_i ds h0
    rw [h0] at r
    cases e
    cases (show Rep K F v (.scr ds) from r) with
    | scr q => exact ⟨_, _, rfl, fun z => (Bool.noConfusion z), fun z => (Bool.noConfusion z), fun _ => SqL.sub g.sub q, scr_ts ds⟩
  · rename_i p h0
    rw [h0] at r
    obtain ⟨a, hp, rfl⟩ := r
    split at e
    · rename_i us h1
      cases e
      obtain ⟨_, vs, hH, rs⟩ := g.cells p a _ hp h1
      exact ⟨a, vs, rfl, fun z => (Bool.noConfusion z), fun z => (Bool.noConfusion z), fun _ => .of hH, rs⟩
    · cases e
  · cases e
theorem lstOf_ok {t : T} {ts : List T} (g : RelS K F ad S H) (r : RepT K F ad v t) (e : lstOf t S = some ts) :
    ∃ a vs, v = .ref a ∧ H a = some (.lst vs) ∧ RepTs K F ad vs ts := by
  have r := deref_ok g r
  unfold lstOf at e
  split at e
  · rename_i ds h0
    rw [h0] at r
    cases e
    cases (show Rep K F v (.lst ds) from r) with
    | lst q rs => exact ⟨_, _, rfl, g.sub _ _ q, rs.ts⟩
  · rename_i p h0
    rw [h0] at r
    obtain ⟨a, hp, rfl⟩ := r
    split at e
    · rename_i us h1
      cases e
      obtain ⟨_, vs, hH, rs⟩ := g.cells p a _ hp h1
      exact ⟨a, vs, rfl, hH, rs⟩
    · cases e
  · cases e
end
section
variable {X : Cx}
/-! ### ints -/
def oI (C : Int → Int → Prop) [∀ i j, Decidable (C i j)] (g : Int → Int → D) : OF := fun x y S => match asI x, asI y with
  | some i, some j => if C i j then some (.d (g i j), S) else none
  | _, _ => none
def oI0 (g : Int → Int → D) : OF := fun x y S => match asI x, asI y with
  | some i, some j => some (.d (g i j), S)
  | _, _ => none
theorem opF_I {f : Value → Value → Sem Value} {C : Int → Int → Prop} [∀ i j, Decidable (C i j)] {gv : Int → Int → V} {g : Int → Int → D} (h : OpR X f (rI C gv)) (hg : ∀ i j K F, Rep K F (gv i j) (g i j)) : OpF X f (oI C g) := by
  refine OpR.imp h fun x y H Q ⟨F, ad, S, tx, ty, t, S', r, rx, ry, e, k⟩ => ?_
  unfold oI at e
  split at e
  · rename_i i j e1 e2
    split at e
    · rename_i hc
      cases e
      exact ⟨i, j, asI_ok e1 rx, asI_ok e2 ry, hc, k F ad H _ (.refl r) (hg _ _ _ _)⟩
    · cases e
  · cases e
theorem opF_I0 {f : Value → Value → Sem Value} {gv : Int → Int → V} {g : Int → Int → D} (h : OpR X f (rI0 gv)) (hg : ∀ i j K F, Rep K F (gv i j) (g i j)) : OpF X f (oI0 g) := by
  refine OpR.imp h fun x y H Q ⟨F, ad, S, tx, ty, t, S', r, rx, ry, e, k⟩ => ?_
  unfold oI0 at e
  split at e
  · rename_i i j e1 e2
    cases e
    exact ⟨i, j, asI_ok e1 rx, asI_ok e2 ry, k F ad H _ (.refl r) (hg _ _ _ _)⟩
  · cases e
instance (i j : Int) : Decidable (CMul i j) := by unfold CMul; infer_instance
instance (i j : Int) : Decidable (CPow i j) := by unfold CPow; infer_instance
instance (i j : Int) : Decidable (CDivW i j) := by unfold CDivW; infer_instance
abbrev oSub : OF := oI0 fun i j => .int (i - j)
abbrev oMod : OF := oI (fun _ j => 0 < j) fun i j => .int (i % j)
abbrev oDiv : OF := oI CDivW fun i j => .int (i / j)
abbrev oPow : OF := oI CPow fun i j => .int (i ^ j.toNat)
abbrev oLt : OF := oI0 fun i j => .bl (decide (i < j))
abbrev oLe : OF := oI0 fun i j => .bl (decide (i ≤ j))
abbrev oGt : OF := oI0 fun i j => .bl (decide (j < i))
abbrev oGe : OF := oI0 fun i j => .bl (decide (j ≤ i))
theorem f_sub : OpF X (binaryOp .Sub) oSub := opF_I0 op_sub fun _ _ _ _ => .int _
theorem f_mod : OpF X (binaryOp .Mod) oMod := opF_I op_mod fun _ _ _ _ => .int _
theorem f_div : OpF X (binaryOp .FloorDiv) oDiv := opF_I op_fdivW fun _ _ _ _ => .int _
theorem f_pow : OpF X (binaryOp .Pow) oPow := opF_I op_pow fun _ _ _ _ => .int _
theorem f_lt : OpF X (compareOp .Lt) oLt := opF_I0 op_lt fun _ _ _ _ => .bl _
theorem f_le : OpF X (compareOp .LtE) oLe := opF_I0 op_le fun _ _ _ _ => .bl _
theorem f_gt : OpF X (compareOp .Gt) oGt := opF_I0 op_gt fun _ _ _ _ => .bl _
theorem f_ge : OpF X (compareOp .GtE) oGe := opF_I0 op_ge fun _ _ _ _ => .bl _
/-! ### + and * -/
def oCat : OF := fun x y S => match lstOf x S, lstOf y S with
  | some a, some b => if a.length + b.length ≤ sizeLine then some (.own S.length, S ++ [.lst (a ++ b)]) else none
  | _, _ => none
theorem f_cat : OpF X (binaryOp .Add) oCat := by
  refine OpR.imp op_cat fun x y H Q ⟨F, ad, S, tx, ty, t, S', r, rx, ry, e, k⟩ => ?_
  unfold oCat at e
  split at e
  · rename_i us ws e1 e2
    obtain ⟨a, vs, rfl, ha, qa⟩ := lstOf_ok r rx e1
    obtain ⟨b, zs, rfl, hb, qb⟩ := lstOf_ok r ry e2
    split at e
    · rename_i hz
      cases e
      refine ⟨a, b, vs, zs, rfl, rfl, ha, hb, by rw [Paired.length qa, Paired.length qb]; exact hz, fun p hp => ?_⟩
      obtain ⟨g, q⟩ := new_lst r hp (Paired.append qa qb)
      exact k _ _ _ _ g q
    · cases e
  · cases e
def oCatS : OF := fun x y S => match asS x, asS y with
  | some a, some b => if a.length + b.length ≤ sizeLine then some (.d (.str (a ++ b)), S) else none
  | _, _ => none
theorem f_catS : OpF X (binaryOp .Add) oCatS := by
  refine OpR.imp op_add_str fun x y H Q ⟨F, ad, S, tx, ty, t, S', r, rx, ry, e, k⟩ => ?_
  unfold oCatS at e
  split at e
  · rename_i us ws e1 e2
    split at e
    · rename_i hz
      cases e
      exact ⟨us, ws, asS_ok e1 rx, asS_ok e2 ry, hz, k F ad H _ (.refl r) (Rep.str _)⟩
    · cases e
  · cases e
def asT (t : T) (S : Cs) : Option (List D) := match deref t S with
  | .d (.tup ds) => some ds
  | _ => none
theorem asT_ok {K : Frg} {F : Hp} {ad : List Addr} {S : Cs} {H : Hp} {v : V} {t : T} {ds : List D} (g : RelS K F ad S H) (r : RepT K F ad v t) (e : asT t S = some ds) : ∃ a vs, v = .ref a ∧ SqT K F a vs ∧ Reps K F vs ds := by
  have r := deref_ok g r
  unfold asT at e
  split at e
  · rename_i es h0
    rw [h0] at r
    cases e
    cases (show Rep K F v (.tup ds) from r) with
    | tup q rs => exact ⟨_, _, rfl, q, rs⟩
  · cases e
def oCatT : OF := fun x y S => match asT x S, asT y S with
  | some a, some b => if a ≠ [] ∧ a.length + b.length ≤ sizeLine then some (.d (.tup (a ++ b)), S) else none
  | _, _ => none
theorem Reps.nil_iff {K : Frg} {F : Hp} {vs : List V} {ds : List D} (r : Reps K F vs ds) : vs = [] ↔ ds = [] := by
  cases r <;> simp
theorem f_catT : OpF X (binaryOp .Add) oCatT := by
  refine OpR.imp op_catT fun x y H Q ⟨F, ad, S, tx, ty, t, S', r, rx, ry, e, k⟩ => ?_
  unfold oCatT at e
  split at e
  · rename_i us ws e1 e2
    obtain ⟨a, vs, rfl, ha, qa⟩ := asT_ok r rx e1
    obtain ⟨b, zs, rfl, hb, qb⟩ := asT_ok r ry e2
    split at e
    · rename_i hz
      cases e
      refine ⟨a, b, vs, zs, rfl, rfl, SqT.sub r.sub ha, SqT.sub r.sub hb, fun z => hz.1 (qa.nil_iff.mp z), by rw [qa.length, qb.length]; exact hz.2, fun z => ?_, fun z p hp => ?_⟩
      · refine k F ad H _ (.refl r) (Rep.tup ha ?_)
        have z2 := qb.nil_iff.mp z
        rw [z2, List.append_nil]
        exact qa
      · obtain ⟨r3, s3⟩ := r.newF (o := .tup (vs ++ zs)) hp
        exact k _ ad _ _ ⟨s3, r3⟩ (Rep.tup (.of upd_same) ((Reps.append qa qb).mono s3.fsub))
    · cases e
  · cases e
def oOr (f g : OF) : OF := fun x y S => match f x y S with
  | some z => some z
  | none => g x y S
theorem OpF.or {f : Value → Value → Sem Value} {g g' : OF} (h : OpF X f g) (h' : OpF X f g') : OpF X f (oOr g g') := by
  refine OpR.imp (OpR.or h h') fun x y H Q ⟨F, ad, S, tx, ty, t, S', r, rx, ry, e, k⟩ => ?_
  unfold oOr at e
  split at e
  · rename_i z e1
    cases e
    exact .inl ⟨F, ad, S, tx, ty, t, S', r, rx, ry, e1, k⟩
  · exact .inr ⟨F, ad, S, tx, ty, t, S', r, rx, ry, e, k⟩
abbrev oAddI : OF := oI0 fun i j => .int (i + j)
abbrev oAdd : OF := oOr oAddI (oOr oCat (oOr oCatT oCatS))
theorem f_add : OpF X (binaryOp .Add) oAdd := (opF_I0 op_add fun _ _ _ _ => .int _).or (f_cat.or (f_catT.or f_catS))
theorem if_addI : OpF X (inplaceOp .Add) oAddI := opF_I0 iop_add fun _ _ _ _ => .int _
theorem if_subI : OpF X (inplaceOp .Sub) oSub := opF_I0 iop_sub fun _ _ _ _ => .int _
abbrev oMulI : OF := oI CMul fun i j => .int (i * j)
def oRep : OF := fun x y S => match lstOf x S, asI y with
  | some a, some k => if -(2 ^ 63) ≤ k ∧ k < 2 ^ 63 ∧ a.length * k.toNat ≤ sizeLine then some (.own S.length, S ++ [.lst (List.replicate k.toNat a).flatten]) else none
  | _, _ => none
theorem Paired.rep {α β : Type} {R : α → β → Prop} {vs : List α} {ds : List β} (r : Paired R vs ds) : ∀ n : Nat, Paired R (List.replicate n vs).flatten (List.replicate n ds).flatten
  | 0 => .nil
  | n + 1 => by
    rw [List.replicate_succ, List.replicate_succ, List.flatten_cons, List.flatten_cons]
    exact Paired.append r (Paired.rep r n)
theorem f_rep : OpF X (binaryOp .Mult) oRep := by
  refine OpR.imp op_rep fun x y H Q ⟨F, ad, S, tx, ty, t, S', r, rx, ry, e, k⟩ => ?_
  unfold oRep at e
  split at e
  · rename_i us i e1 e2
    obtain ⟨a, vs, rfl, ha, qa⟩ := lstOf_ok r rx e1
    split at e
    · rename_i hz
      cases e
      refine ⟨a, i, vs, rfl, asI_ok e2 ry, ha, hz.1, hz.2.1, by rw [Paired.length qa]; exact hz.2.2, fun p hp => ?_⟩
      obtain ⟨g, q⟩ := new_lst r hp (Paired.rep qa i.toNat)
      exact k _ _ _ _ g q
    · cases e
  · cases e
abbrev oMul : OF := oOr oMulI oRep
theorem f_mul : OpF X (binaryOp .Mult) oMul := (opF_I op_mul fun _ _ _ _ => .int _).or f_rep
/-! ### == -/
mutual
def pyD : D → Option PyData
  | .non => some .none
  | .bl b => some (.bool b)
  | .int i => some (.int i)
  | .str x => some (.str x)
  | .tup ds => (pyDs ds).map .tuple
  | .lst ds => (pyDs ds).map .list
  | .obj _ _ => none
  | .scr _ => none
  | .ty _ => none
  | .glob _ => none
  | .rng _ _ => none
def pyDs : List D → Option (List PyData)
  | [] => some []
  | d :: ds => (pyD d).bind fun p => (pyDs ds).map fun q => p :: q
end
mutual
theorem pyD_ok {K : Frg} {F H : Hp} (h : ∀ b o, F b = some o → H b = some o) : ∀ {v : V} {d : D} {p : PyData}, Rep K F v d → pyD d = some p → Dp K H v p
  | _, _, _, .non, e => by unfold pyD at e; cases e; exact .non
  | _, _, _, .bl b, e => by unfold pyD at e; cases e; exact .bl b
  | _, _, _, .int i, e => by unfold pyD at e; cases e; exact .int i
  | _, _, _, .str x, e => by unfold pyD at e; cases e; exact .str x
  | _, _, _, .tup q r, e => by
    unfold pyD at e
    obtain ⟨ps, e1, e⟩ := Option.map_eq_some_iff.mp e
    cases e
    exact   .tup (SqT.sub h q) (pyDs_ok h r e1)
  | _, _, _, .lst q r, e => by
    unfold pyD at e
    obtain ⟨ps, e1, e⟩ := Option.map_eq_some_iff.mp e
    cases e
    exact .lst (.of (h _ _ q)) (pyDs_ok h r e1)
  | _, _, _, .obj q r, e => by unfold pyD at e; cases e
  | _, _, _, .scr q, e => by unfold pyD at e; cases e
  | _, _, _, .ty n, e => by unfold pyD at e; cases e
  | _, _, _, .glob n, e => by unfold pyD at e; cases e
  | _, _, _, .rng n, e => by unfold pyD at e; cases e
theorem pyDs_ok {K : Frg} {F H : Hp} (h : ∀ b o, F b = some o → H b = some o) : ∀ {vs : List V} {ds : List D} {ps : List PyData}, Reps K F vs ds → pyDs ds = some ps → DpAll K H vs ps
  | _, _, _, .nil, e => by unfold pyDs at e; cases e; exact .nil
  | _, _, _, .cons q r, e => by
    unfold pyDs at e
    obtain ⟨p1, e1, e⟩ := bind_some e
    obtain ⟨pr, e2, e⟩ := Option.map_eq_some_iff.mp e
    cases e
    exact .cons (pyD_ok h q e1) (pyDs_ok h r e2)
end
def mapO {α : Type} (f : T → Option α) : List T → Option (List α)
  | [] => some []
  | t :: ts => (f t).bind fun a => (mapO f ts).map fun l => a :: l
def pyT : Nat → Cs → T → Option PyData
  | _, _, .d d => pyD d
  | 0, _, .own _ => none
  | n + 1, S, .own p => match S[p]? with
    | some (.frz d) => pyD d
    | some (.lst ts) => (mapO (pyT n S) ts).map .list
    | _ => none
theorem mapO_ok {K : Frg} {F : Hp} {ad : List Addr} {S : Cs} {H : Hp} {f : T → Option PyData} (hf : ∀ t v p, RepT K F ad v t → f t = some p → Dp K H v p) : ∀ {vs : List V} {ts : List T} {ps : List PyData}, RepTs K F ad vs ts → mapO f ts = some ps → DpAll K H vs ps
  | _, _, _, .nil, e => by unfold mapO at e; cases e; exact .nil
  | _, _, _, .cons q r, e => by
    unfold mapO at e
    obtain ⟨p1, e1, e⟩ := bind_some e
    obtain ⟨pr, e2, e⟩ := Option.map_eq_some_iff.mp e
    cases e
    exact .cons (hf _ _ _ q e1) (mapO_ok (S := S) hf r e2)
theorem pyT_ok {K : Frg} {F : Hp} {ad : List Addr} {S : Cs} {H : Hp} (g : RelS K F ad S H) : ∀ (n : Nat) (t : T) (v : V) (p : PyData), RepT K F ad v t → pyT n S t = some p → Dp K H v p := by
  intro n
  induction n with
  | zero =>
    intro t v p r e
    cases t with
    | d d => exact pyD_ok g.sub r (by unfold pyT at e; exact e)
    | own q => unfold pyT at e; cases e
  | succ n ih =>
    intro t v p r e
    cases t with
    | d d => exact pyD_ok g.sub r (by unfold pyT at e; exact e)
    | own q =>
      obtain ⟨a, hp, rfl⟩ := r
      unfold pyT at e
      split at e
      · rename_i d h0
        exact pyD_ok g.sub (g.cells q a _ hp h0).1 e
      · rename_i ts h0
        obtain ⟨ps, e1, e⟩ := Option.map_eq_some_iff.mp e
        cases e
        obtain ⟨_, vs, hH, rs⟩ := g.cells q a _ hp h0
        exact .lst (.of hH) (mapO_ok (S := S) ih rs e1)
      · cases e
/-- == of data at any depth -/
def eqT (x y : T) (S : Cs) : Option Bool := match pyT dep S x, pyT dep S y with
  | some p, some q => if SeqAt.shaped p = true ∧ SeqAt.shaped q = true then some (PyData.eqv p q) else none
  | _, _ => none
def oEq : OF := fun x y S => (eqT x y S).map fun b => (.d (.bl b), S)
def oNe : OF := fun x y S => (eqT x y S).map fun b => (.d (.bl (!b)), S)
theorem f_eq (hu : X.A.units + 64 < cLine) : OpF X (compareOp .Eq) oEq := by
  refine OpR.imp (op_eqD hu) fun x y H Q ⟨F, ad, S, tx, ty, t, S', r, rx, ry, e, k⟩ => ?_
  obtain ⟨b, e1, e⟩ := Option.map_eq_some_iff.mp e
  cases e
  unfold eqT at e1
  split at e1
  · rename_i p q ep eq
    split at e1
    · rename_i hs
      cases e1
      exact ⟨p, q, pyT_ok r _ _ _ _ rx ep, pyT_ok r _ _ _ _ ry eq, hs.1, hs.2, k F ad H _ (.refl r) (Rep.bl _)⟩
    · cases e1
  · cases e1
theorem f_ne (hu : X.A.units + 64 < cLine) : OpF X (compareOp .NotEq) oNe := by
  refine OpR.imp (op_neD hu) fun x y H Q ⟨F, ad, S, tx, ty, t, S', r, rx, ry, e, k⟩ => ?_
  obtain ⟨b, e1, e⟩ := Option.map_eq_some_iff.mp e
  cases e
  unfold eqT at e1
  split at e1
  · rename_i p q ep eq
    split at e1
    · rename_i hs
      cases e1
      exact ⟨p, q, pyT_ok r _ _ _ _ rx ep, pyT_ok r _ _ _ _ ry eq, hs.1, hs.2, k F ad H _ (.refl r) (Rep.bl _)⟩
    · cases e1
  · cases e1
/-! ### is None -/
def isNone : T → Bool
  | .d .non => true
  | _ => false
theorem isNone_ok {K : Frg} {F : Hp} {ad : List Addr} {v : V} {t : T} (r : RepT K F ad v t) : decide (v = .non) = isNone t := by
  cases t with
  | own p => obtain ⟨a, _, rfl⟩ := r; rfl
  | d d => cases (show Rep K F v d from r) <;> rfl
def oIs : OF := fun x y S => if isNone y = true then some (.d (.bl (isNone x)), S) else none
def oIsN : OF := fun x y S => if isNone y = true then some (.d (.bl (!isNone x)), S) else none
theorem f_is : OpF X (compareOp .Is) oIs := by
  refine OpR.imp op_isN fun x y H Q ⟨F, ad, S, tx, ty, t, S', r, rx, ry, e, k⟩ => ?_
  unfold oIs at e
  split at e
  · rename_i hn
    cases e
    refine ⟨of_decide_eq_true ((isNone_ok ry).trans hn), ?_⟩
    rw [isNone_ok rx]
    exact k F ad H _ (.refl r) (Rep.bl _)
  · cases e
theorem f_isN : OpF X (compareOp .IsNot) oIsN := by
  refine OpR.imp op_notN fun x y H Q ⟨F, ad, S, tx, ty, t, S', r, rx, ry, e, k⟩ => ?_
  unfold oIsN at e
  split at e
  · rename_i hn
    cases e
    refine ⟨of_decide_eq_true ((isNone_ok ry).trans hn), ?_⟩
    rw [isNone_ok rx]
    exact k F ad H _ (.refl r) (Rep.bl _)
  · cases e
/-! ### -a -/
def cUn (g : T → Cs → Option (T × Cs)) (f : EF) : EF := fun σ S => (f σ S).bind fun p => g p.1 p.2
def oNeg (x : T) (S : Cs) : Option (T × Cs) := (asI x).map fun i => (.d (.int (-i)), S)
theorem fe_neg {a : Expr} {fa : EF} {pos : Pos} (ha : FE X a fa) : FE X (.UnaryOp .USub a pos) (cUn oNeg fa) := by
  refine PE.imp (pe_un un_neg ha) fun τ H Q ⟨F, ad, σ, S, t, S', r, so, e, k⟩ => ?_
  obtain ⟨⟨tx, S1⟩, e1, e⟩ := bind_some e
  obtain ⟨i, e2, e⟩ := Option.map_eq_some_iff.mp e
  cases e
  exact ⟨F, ad, σ, S, tx, S1, r, so, e1, fun F1 ad1 H1 v g1 rx => ⟨i, asI_ok e2 rx, k F1 ad1 H1 _ g1 (Rep.int _)⟩⟩
/-! ### a < b < c -/
def cChain (g g' : OF) (fa fb fc : EF) : EF := fun σ S => (fa σ S).bind fun p => (fb σ p.2).bind fun q => (g p.1 q.1 q.2).bind fun z => match z.1 with
  | .d (.bl true) => (fc σ z.2).bind fun u => g' q.1 u.1 u.2
  | .d (.bl false) => some (.d (.bl false), z.2)
  | _ => none
theorem chain_ok {op op' : CmpOp} {g g' : OF} {a b c : Expr} {fa fb fc : EF} {τ : L2.St} {H : Hp} {Q : VK} (h : tE X.K (cChain g g' fa fb fc) τ H Q) : tChain (r2 X.K g) (r2 X.K g') (tE X.K fa) (tE X.K fb) (tE X.K fc) τ H Q := by
  obtain ⟨F, ad, σ, S, t, S', r, so, e, k⟩ := h
  obtain ⟨⟨tx, S1⟩, e1, e⟩ := bind_some e
  obtain ⟨⟨ty, S2⟩, e2, e⟩ := bind_some e
  obtain ⟨⟨tz, S3⟩, e3, e⟩ := bind_some e
  refine ⟨F, ad, σ, S, tx, S1, r, so, e1, fun F1 ad1 H1 v g1 rx => ⟨F1, ad1, σ, S1, ty, S2, g1.rel, so.step g1.st, e2, fun F2 ad2 H2 w g2 ry =>
    ⟨F2, ad2, S2, tx, ty, tz, S3, g2.rel, rx.step g2.st, ry, e3, fun F3 ad3 H3 z g3 rz => ?_⟩⟩⟩
  simp only at e
  split at e
  · refine ⟨true, rz.bl, ?_⟩
    obtain ⟨⟨tu, S4⟩, e4, e⟩ := bind_some e
    rw [if_pos rfl]
    exact ⟨F3, ad3, σ, S3, tu, S4, g3.rel, so.step ((g1.trans g2).trans g3).st, e4, fun F4 ad4 H4 u g4 ru =>
      ⟨F4, ad4, S4, ty, tu, t, S', g4.rel, ry.step (g3.trans g4).st, ru, e, fun F5 ad5 H5 y g5 r5 => k F5 ad5 H5 y ((((g1.trans g2).trans g3).trans g4).trans g5) r5⟩⟩
  · cases e
    refine ⟨false, rz.bl, ?_⟩
    rw [if_neg Bool.false_ne_true]
    exact k F3 ad3 H3 _ ((g1.trans g2).trans g3) (Rep.bl _)
  · cases e
theorem fe_chain {op op' : CmpOp} {g g' : OF} {a b c : Expr} {fa fb fc : EF} {pos : Pos} (ho : OpF X (compareOp op) g) (ho' : OpF X (compareOp op') g') (ha : FE X a fa) (hb : FE X b fb) (hc : FE X c fc)
    (hm : lastMarks [op, op'] [b, c] = false := by with_unfolding_all rfl) : FE X (.Compare a [op, op'] [b, c] pos) (cChain g g' fa fb fc) :=
  PE.imp (pe_chain ho ho' ha hb hc hm) fun τ H Q h => chain_ok (op := op) (op' := op') (a := a) (b := b) (c := c) h
theorem fb_chain {op op' : CmpOp} {g g' : OF} {a b c : Expr} {fa fb fc : EF} {pos : Pos} (ho : OpF X (compareOp op) g) (ho' : OpF X (compareOp op') g') (ha : FE X a fa) (hb : FE X b fb) (hc : FE X c fc)
    (hm : lastMarks [op, op'] [b, c] = false := by with_unfolding_all rfl) : FB X (.Compare a [op, op'] [b, c] pos) (cB (cChain g g' fa fb fc)) :=
  PT.imp (pt_chain ho ho' ha hb hc hm) fun τ H Q h => chain_ok (op := op) (op' := op') (a := a) (b := b) (c := c) (toB h)
/-! ### subscripts -/
theorem IxR.imp {r r' : R2} (h : IxR X r) (w : ∀ x y H Q, r' x y H Q → r x y H Q) : IxR X r' := fun vl sl pins s σ H x y v u Q I rx ry q => h vl sl pins s σ H x y v u Q I rx ry (w _ _ _ _ q)
def IxF (X : Cx) (g : OF) : Prop := IxR X (r2 X.K g)
def oIx : OF := fun x y S => match asI y with
  | none => none
  | some i => (match seqOf x S with
    | some p => (atI p.2 i).map fun t => (t, S)
    | none => (match asS x with
      | some z => if z.length ≤ sizeLine then (atI z.cps.toList i).map fun c => (.d (.str ⟨#[c]⟩), S) else none
      | none => none))
theorem atI_ok {α β : Type} {R : α → β → Prop} {vs : List α} {ts : List β} (r : Paired R vs ts) {i : Int} {t : β} (e : atI ts i = some t) : ∃ v, atI vs i = some v ∧ R v t := by
  unfold atI at e
  obtain ⟨j, e1, e2⟩ := bind_some e
  obtain ⟨v, h1, h2⟩ := Paired.get r e2
  refine ⟨v, ?_, h2⟩
  unfold atI
  rw [Paired.length r, e1]
  exact h1
theorem f_ix : IxF X oIx := by
  refine IxR.imp ix_seq fun x y H Q ⟨F, ad, S, tx, ty, t, S', r, rx, ry, e, k⟩ => ?_
  unfold oIx at e
  split at e
  · cases e
  · rename_i i ei
    have ey := asI_ok ei ry
    split at e
    · rename_i p ep
      obtain ⟨u, e1, e⟩ := Option.map_eq_some_iff.mp e
      cases e
      obtain ⟨b, ts⟩ := p
      obtain ⟨a, vs, rfl, _, q1, q2, rs⟩ := seqOf_ok r rx ep
      obtain ⟨v, h1, h2⟩ := atI_ok rs e1
      cases b with
      | false => exact .inl ⟨a, vs, i, v, rfl, ey, q2 rfl, h1, k F ad H v (.refl r) h2⟩
      | true => exact .inr (.inl ⟨a, vs, i, v, rfl, ey, q1 rfl, h1, k F ad H v (.refl r) h2⟩)
    · split at e
      · rename_i z ez
        split at e
        · rename_i hz
          obtain ⟨u, e1, e⟩ := Option.map_eq_some_iff.mp e
          cases e
          exact .inr (.inr ⟨z, i, u, asS_ok ez rx, ey, hz, e1, k F ad H _ (.refl r) (Rep.str _)⟩)
        · cases e
      · cases e
theorem fe_ix {a b : Expr} {fa fb : EF} {pos : Pos} (ha : FE X a fa) (hb : FE X b fb) (hs : PlainIx b := by intro _ _; rfl) : FE X (.Subscript a b pos) (cBin oIx fa fb) :=
  PE.imp (pe_ix f_ix ha hb hs) fun _ _ _ h => two h
/-! ### calls of the program's own defs -/
abbrev MF := List T → Cs → Option (T × Cs)
/-- a def's promise: it does what m does -/
def spF (K : Frg) (n : Nat) (m : MF) : Sp := fun vs H Q _ => ∃ F ad S ts t S', RelS K F ad S H ∧ RepTs K F ad vs ts ∧ ts.length = n ∧ m ts S = some (t, S') ∧
  ∀ F' ad' H' v, Go K F ad H F' ad' H' S' → RepT K F' ad' v t → Q v H'
/-- a call that may change the caller's objects -/
def cCallS (m : MF) (dts : List T) (n : Nat) (fs : AF) : EF := fun σ S => (fs σ S).bind fun p => if (p.1 ++ dts).length = n then m (p.1 ++ dts) p.2 else none
/-- a call upon data; the answer is data -/
def cCallP (m : MF) (dts : List T) (n : Nat) (fs : AF) : EF := fun σ S => (fs σ S).bind fun p => if (p.1 ++ dts).length = n then
  (toDs (p.1 ++ dts) p.2).bind fun q => (m (q.1.map .d) []).bind fun u => (toD dep u.1 u.2).map fun w => (.d w.1, q.2) else none
/-- the same; a list that comes back may be changed -/
def cCallN (m : MF) (dts : List T) (n : Nat) (fs : AF) : EF := fun σ S => (fs σ S).bind fun p => if (p.1 ++ dts).length = n then
  (toDs (p.1 ++ dts) p.2).bind fun q => (m (q.1.map .d) []).bind fun u => match u.1 with
    | .d d => some (.d d, q.2)
    | .own j => (match u.2[j]? with
      | some (.lst ts) => (toDs ts u.2).bind fun w => if isFrz w.2[j]? = true then none else some (.own q.2.length, q.2 ++ [.lst (w.1.map .d)])
      | _ => none) else none
theorem RelS.nil {K : Frg} {F : Hp} {ad : List Addr} {S : Cs} {H : Hp} (r : RelS K F ad S H) : RelS K F [] [] H := ⟨r.sub, List.nodup_nil, rfl, fun p a c e _ => by simp at e⟩
theorem Go.wide {K : Frg} {F : Hp} {ad : List Addr} {S : Cs} {H F' H' : Hp} {ad' : List Addr} {S' : Cs} (r : RelS K F ad S H) (g : Go K F [] H F' ad' H' S') : Go K F ad H F' ad H' S := by
  have hn : ∀ a, (∃ o, H a = some o) → F a = none → F' a = none := fun a ⟨o, h⟩ hf => by
    cases q : F' a with
    | none => rfl
    | some u =>
      rcases g.st.fnew a u q with z | z | z
      · rw [hf] at z; cases z
      · simp at z
      · rw [h] at z; cases z
  have st : Step F ad H F' ad H' := ⟨g.st.fsub, fun b o h => by
    rcases g.st.fnew b o h with z | z | z
    · exact .inl z
    · simp at z
    · exact .inr (.inr z), ⟨[], by simp, fun _ h => by simp at h⟩, fun b o h _ => g.st.keep b o h (by simp), g.st.alive⟩
  refine ⟨st, ⟨g.rel.sub, r.nd, r.len, fun p a c e1 e2 => ?_⟩⟩
  have q := r.cells p a c e1 e2
  exact q.step st (fun o h => g.st.keep a o h (by simp)) fun h => hn a q.there h
theorem CellOk.more {K : Frg} {F : Hp} {ad : List Addr} {H : Hp} {a : Addr} {c : Cell} (l : List Addr) (q : CellOk K F ad H a c) : CellOk K F (ad ++ l) H a c := by
  cases c with
  | lst ts => obtain ⟨n, vs, e, q⟩ := q; exact ⟨n, vs, e, Paired.mapP q fun _ t q => RepT.mono (fun _ _ h => h) t q⟩
  | ins c fs => obtain ⟨n, dx, fvs, e, q⟩ := q; exact ⟨n, dx, fvs, e, Paired.mapP q fun _ t q => ⟨q.1, RepT.mono (fun _ _ h => h) t.2 q.2⟩⟩
  | frz d => exact q
/-- an object that stands apart becomes a local one -/
theorem RelS.adopt {K : Frg} {F : Hp} {ad : List Addr} {S : Cs} {H : Hp} {a : Addr} {c : Cell} (r : RelS K F ad S H) (na : a ∉ ad) (hc : ∀ l, CellOk K F (ad ++ l) H a c) : RelS K F (ad ++ [a]) (S ++ [c]) H := by
  refine ⟨r.sub, ?_, by simp [r.len], fun i b c' i1 i2 => ?_⟩
  · rw [List.nodup_append]
    exact ⟨r.nd, by simp, fun x hx y hy => by rw [List.mem_singleton.mp hy]; exact fun (z : x = a) => na (z ▸ hx)⟩
  · by_cases hi : i < ad.length
    · rw [List.getElem?_append_left hi] at i1
      rw [List.getElem?_append_left (by rw [← r.len]; exact hi)] at i2
      exact (r.cells i b c' i1 i2).more [a]
    · rw [List.getElem?_append_right (Nat.le_of_not_lt hi)] at i1
      rw [List.getElem?_append_right (by rw [← r.len]; exact Nat.le_of_not_lt hi), ← r.len] at i2
      have e0 : i - ad.length = 0 := by
        have := (List.getElem?_eq_some_iff.mp i1).1
        simp at this
        omega
      rw [e0] at i1 i2
      simp at i1 i2
      subst i1 i2
      exact hc [a]
theorem callP_ok {m : MF} {n : Nat} {K : Frg} {F : Hp} {ad : List Addr} {S : Cs} {H : Hp} {vs : List V} {ts : List T} {Q : VK} {E : XK} {ds : List D} {S1 : Cs} {u : T × Cs}
    (r : RelS K F ad S H) (rs : RepTs K F ad vs ts) (hn : ts.length = n) (e1 : toDs ts S = some (ds, S1)) (e2 : m (ds.map .d) [] = some u)
    (k : ∀ F' ad' H' v F1, Still K F ad H F1 S1 → RelS K F1 [] [] H → Go K F1 [] H F' ad' H' u.2 → RepT K F' ad' v u.1 → Q v H') : spF K n m vs H Q E := by
  obtain ⟨F1, g1, p1⟩ := toDs_ok r rs e1
  exact ⟨F1, [], [], ds.map .d, u.1, u.2, g1.rel.nil, p1.ts, by rw [List.length_map, ← p1.length, Paired.length rs, hn], e2, fun F' ad' H' v g rv => k F' ad' H' v F1 g1 g1.rel.nil g rv⟩
section
variable {CX : CXT} {j n : Nat} {f : Addr} {fd : FuncData} {ps : List Str} {m : MF} {ds : List Value} {dvs : List V} {dts : List T} {E : XK} {x : Str} {p pos : Pos} {e : Expr} {es : List Expr} {fs : AF}
theorem callS_rd (hdv : ∀ F ad, RepTs X.K F ad dvs dts) {τ : L2.St} {H : Hp} {Q : VK} (h : tE X.K (cCallS m dts n fs) τ H Q) : tCall (spF X.K n m) dvs E (tA X.K fs) τ H Q := by
  obtain ⟨F, ad, σ, S, t, S', r, so, e, k⟩ := h
  obtain ⟨⟨ts, S1⟩, e1, e⟩ := bind_some e
  simp only at e
  split at e
  · rename_i hn
    exact ⟨F, ad, σ, S, ts, S1, r, so, e1, fun F1 ad1 H1 vs g1 rs => ⟨F1, ad1, S1, ts ++ dts, t, S', g1.rel, Paired.append rs (hdv _ _), hn, e, fun F' ad' H' v g rv => k F' ad' H' v (g1.trans g) rv⟩⟩
  · cases e
theorem callP_rd (hdv : ∀ F ad, RepTs X.K F ad dvs dts) {τ : L2.St} {H : Hp} {Q : VK} (h : tE X.K (cCallP m dts n fs) τ H Q) : tCall (spF X.K n m) dvs E (tA X.K fs) τ H Q := by
  obtain ⟨F, ad, σ, S, t, S', r, so, e, k⟩ := h
  obtain ⟨⟨ts, S1⟩, e1, e⟩ := bind_some e
  simp only at e
  split at e
  · rename_i hn
    refine ⟨F, ad, σ, S, ts, S1, r, so, e1, fun F1 ad1 H1 vs g1 rs => ?_⟩
    obtain ⟨⟨qs, S2⟩, e2, e⟩ := bind_some e
    obtain ⟨⟨u, S3⟩, e3, e⟩ := bind_some e
    obtain ⟨⟨w, S4⟩, e4, e⟩ := Option.map_eq_some_iff.mp e
    cases e
    refine callP_ok g1.rel (Paired.append rs (hdv _ _)) hn e2 e3 fun F' ad' H' v F2 g2 r0 g rv => ?_
    obtain ⟨F3, g3, p3⟩ := toD_ok dep u S3 w S4 F' ad' H' v g.rel rv e4
    have g4 : Go X.K F2 ad1 H1 F3 ad1 H' S2 := Go.wide g2.rel (g.trans g3.go)
    exact k F3 ad1 H' v ((g1.trans g2.go).trans g4) p3
  · cases e
theorem callN_rd (hdv : ∀ F ad, RepTs X.K F ad dvs dts) {τ : L2.St} {H : Hp} {Q : VK} (h : tE X.K (cCallN m dts n fs) τ H Q) : tCall (spF X.K n m) dvs E (tA X.K fs) τ H Q := by
  obtain ⟨F, ad, σ, S, t, S', r, so, e, k⟩ := h
  obtain ⟨⟨ts, S1⟩, e1, e⟩ := bind_some e
  simp only at e
  split at e
  · rename_i hn
    refine ⟨F, ad, σ, S, ts, S1, r, so, e1, fun F1 ad1 H1 vs g1 rs => ?_⟩
    obtain ⟨⟨qs, S2⟩, e2, e⟩ := bind_some e
    obtain ⟨⟨u, S3⟩, e3, e⟩ := bind_some e
    refine callP_ok g1.rel (Paired.append rs (hdv _ _)) hn e2 e3 fun F' ad' H' v F2 g2 r0 g rv => ?_
    cases u with
    | d d =>
      simp only at e
      cases e
      exact k F' ad1 H' v ((g1.trans g2.go).trans (Go.wide g2.rel g)) rv
    | own q =>
      simp only at e
      split at e
      · rename_i us hu
        obtain ⟨⟨ws, S4⟩, e4, e⟩ := bind_some e
        simp only at e
        split at e
        · cases e
        · rename_i hz
          cases e
          obtain ⟨a, hp, rfl⟩ := rv
          obtain ⟨_, zs, hH, rz⟩ := g.rel.cells q a _ hp hu
          obtain ⟨F3, g3, p3⟩ := toDs_ok g.rel rz e4
          obtain ⟨nF, c1, hc1⟩ := g3.rel.notF hp hz
          have gg : Go X.K F2 ad1 H1 F3 ad1 H' S2 := Go.wide g2.rel (g.trans g3.go)
          obtain ⟨l, el, hl⟩ := g.st.adx
          have fresh : H1 a = none := hl a (by rw [List.nil_append] at el; rw [← el]; exact List.mem_of_getElem? hp)
          have na : a ∉ ad1 := fun z => by
            obtain ⟨o, ho⟩ := g1.rel.there z
            rw [fresh] at ho; cases ho
          have st : Step F2 ad1 H1 F3 (ad1 ++ [a]) H' := ⟨gg.st.fsub, gg.st.fnew, ⟨[a], rfl, fun b hb => by rw [List.mem_singleton.mp hb]; exact fresh⟩, gg.st.keep, gg.st.alive⟩
          have rel : RelS X.K F3 (ad1 ++ [a]) (S2 ++ [.lst (ws.map .d)]) H' := gg.rel.adopt na fun l => ⟨nF, zs, hH, p3.ts⟩
          exact k F3 (ad1 ++ [a]) H' _ ((g1.trans g2.go).trans ⟨st, rel⟩) ⟨a, by rw [← gg.rel.len, List.getElem?_append_right (Nat.le_refl _)]; simp, rfl⟩
      · cases e
  · cases e
/-- f(e, ..) -/
theorem fe_call {c : EF} (hc : ∀ τ H Q, tE X.K c τ H Q → tCall (spF X.K n m) dvs E (tA X.K fs) τ H Q) (G : FnOk X.prog X.w X.K X.mg X.base CX j f fd ps (spF X.K n m)) (hr : Room j X.A) (hg : Gl X x) (hm : X.mg x = some (.ref f)) (hk : PySem.W.keepIn X.K (.ref f) = true)
    (hb : Binds X.K fd ps ds) (hd : Vals dvs ds) (hx : Passes CX X E) (ha : FA X (e :: es) fs) (hdb : (x == ("__debug__" : Str)) = false := by decide) (hs : starEach (e :: es) X.env = (false, eval e X.env) :: starEach es X.env := by rfl)
    (hpl : (backTo pos (starEach es X.env)).any (·.1) = false := by rfl) : FE X (.Call (.Name x p) (e :: es) [] pos) c :=
  PE.imp (pe_call G hr hg hm hk hb hd hx ha hdb hs hpl) hc
end
end
end FL
/-! FL: built-ins, methods, statements, loops. -/
namespace FL
open PySem PySem.Spec PyProof.Rows L2
section
variable {X : Cx}
/-! ### built-ins -/
def rF (K : Frg) (g : MF) : List V → Hp → VK → Prop := fun vs H Q => ∃ F ad S ts t S', RelS K F ad S H ∧ RepTs K F ad vs ts ∧ g ts S = some (t, S') ∧
  ∀ F' ad' H' v, Go K F ad H F' ad' H' S' → RepT K F' ad' v t → Q v H'
def CallF (X : Cx) (f : Value) (g : MF) : Prop := CallR X f (rF X.K g)
theorem CallR.imp {f : Value} {r r' : List V → Hp → VK → Prop} (h : CallR X f r) (w : ∀ x H Q, r' x H Q → r x H Q) : CallR X f r' := fun pins s σ H x v Q I rx q => h pins s σ H x v Q I rx (w _ _ _ q)
def cCB (g : MF) (fs : AF) : EF := fun σ S => (fs σ S).bind fun p => g p.1 p.2
section
variable {g : MF} {fs : AF} {x : Str} {p pos : Pos} {e : Expr} {es : List Expr} {id : String}
theorem cb_rd {τ : L2.St} {H : Hp} {Q : VK} (h : tE X.K (cCB g fs) τ H Q) : tCB (rF X.K g) (tA X.K fs) τ H Q := by
  obtain ⟨F, ad, σ, S, t, S', r, so, e, k⟩ := h
  obtain ⟨⟨ts, S1⟩, e1, e⟩ := bind_some e
  exact ⟨F, ad, σ, S, ts, S1, r, so, e1, fun F1 ad1 H1 vs g1 rs => ⟨F1, ad1, S1, ts, t, S', g1.rel, rs, e, fun F' ad' H' v g rv => k F' ad' H' v (g1.trans g) rv⟩⟩
theorem fe_callB (hc : CallF X (.builtin id) g) (hg : Gl X x) (hm : X.mg x = none) (hv : bootBuiltins x = some (.builtin id)) (ha : FA X (e :: es) fs) (hn : x ≠ "__name__" := by decide) (hdb : (x == ("__debug__" : Str)) = false := by decide)
    (hs : starEach (e :: es) X.env = (false, eval e X.env) :: starEach es X.env := by rfl) (hpl : (backTo pos (starEach es X.env)).any (·.1) = false := by rfl) : FE X (.Call (.Name x p) (e :: es) [] pos) (cCB g fs) :=
  PE.imp (pe_callB hc hg hm hv ha hn hdb hs hpl) fun _ _ _ h => cb_rd h
theorem fe_callTy (hc : CallF X (.type id) g) (hg : Gl X x) (hm : X.mg x = none) (hv : bootBuiltins x = some (.type id)) (ha : FA X (e :: es) fs) (hn : x ≠ "__name__" := by decide) (hdb : (x == ("__debug__" : Str)) = false := by decide)
    (hs : starEach (e :: es) X.env = (false, eval e X.env) :: starEach es X.env := by rfl) (hpl : (backTo pos (starEach es X.env)).any (·.1) = false := by rfl) : FE X (.Call (.Name x p) (e :: es) [] pos) (cCB g fs) :=
  PE.imp (pe_callTy hc hg hm hv ha hn hdb hs hpl) fun _ _ _ h => cb_rd h
end
def bOr (f g : MF) : MF := fun ts S => match f ts S with
  | some z => some z
  | none => g ts S
theorem CallF.or {f : Value} {g g' : MF} (h : CallF X f g) (h' : CallF X f g') : CallF X f (bOr g g') := by
  intro pins s σ H xs us Q I rx q
  obtain ⟨F, ad, S, ts, t, S', r, rs, e, k⟩ := q
  unfold bOr at e
  split at e
  · rename_i z e1
    cases e
    exact h pins s σ H xs us Q I rx ⟨F, ad, S, ts, t, S', r, rs, e1, k⟩
  · exact h' pins s σ H xs us Q I rx ⟨F, ad, S, ts, t, S', r, rs, e, k⟩
theorem pair1 {α β : Type} {R : α → β → Prop} {vs : List α} {y : β} (r : Paired R vs [y]) : ∃ x, vs = [x] ∧ R x y := by
  cases r with
  | cons a b => cases b; exact ⟨_, rfl, a⟩
theorem pair2 {α β : Type} {R : α → β → Prop} {vs : List α} {y z : β} (r : Paired R vs [y, z]) : ∃ x w, vs = [x, w] ∧ R x y ∧ R w z := by
  cases r with
  | cons a b =>
    cases b with
    | cons c d => cases d; exact ⟨_, _, rfl, a, c⟩
def b1 (g : T → Cs → Option (T × Cs)) : MF := fun ts S => match ts with
  | [t] => g t S
  | _ => none
def b2 (g : T → T → Cs → Option (T × Cs)) : MF := fun ts S => match ts with
  | [t, u] => g t u S
  | _ => none
theorem b1_some {g : T → Cs → Option (T × Cs)} {ts : List T} {S : Cs} {z : T × Cs} (e : b1 g ts S = some z) : ∃ t, ts = [t] ∧ g t S = some z := by
  unfold b1 at e
  split at e
  · exact ⟨_, rfl, e⟩
  · cases e
theorem b2_some {g : T → T → Cs → Option (T × Cs)} {ts : List T} {S : Cs} {z : T × Cs} (e : b2 g ts S = some z) : ∃ t u, ts = [t, u] ∧ g t u S = some z := by
  unfold b2 at e
  split at e
  · exact ⟨_, _, rfl, e⟩
  · cases e
def bLen : MF := b1 fun t S => match seqOf t S with
  | some p => some (.d (.int p.2.length), S)
  | none => none
theorem f_len : CallF X (.builtin "len") bLen := by
  refine CallR.imp call_len_seq fun vs H Q ⟨F, ad, S, ts, t, S', r, rs, e, k⟩ => ?_
  have e2 := b1_some (show b1 _ ts S = some (t, S') from e)
  clear e
  obtain ⟨_, rfl, e⟩ := e2
  split at e
  · rename_i q hq
    cases e
    obtain ⟨x, rfl, rx⟩ := pair1 rs
    obtain ⟨b, us⟩ := q
    obtain ⟨a, ws, rfl, _, q1, q2, rr⟩ := seqOf_ok r rx hq
    refine ⟨a, ws, rfl, ?_, ?_⟩
    · cases b with
      | false => exact .inl (q2 rfl)
      | true => exact .inr (q1 rfl)
    · rw [Paired.length rr]
      exact k F ad H _ (.refl r) (Rep.int _)
  · cases e
def bLenS : MF := b1 fun t S => match asS t with
  | some z => if z.length ≤ sizeLine then some (.d (.int z.length), S) else none
  | none => none
theorem f_lenS : CallF X (.builtin "len") bLenS := by
  refine CallR.imp call_len_str fun vs H Q ⟨F, ad, S, ts, t, S', r, rs, e, k⟩ => ?_
  have e2 := b1_some (show b1 _ ts S = some (t, S') from e)
  clear e
  obtain ⟨_, rfl, e⟩ := e2
  split at e
  · rename_i z hz
    split at e
    · rename_i hl
      cases e
      obtain ⟨x, rfl, rx⟩ := pair1 rs
      exact ⟨z, by rw [asS_ok hz rx], hl, k F ad H _ (.refl r) (Rep.int _)⟩
    · cases e
  · cases e
def bI1 (g : Int → Int) : MF := b1 fun t S => (asI t).map fun i => (.d (.int (g i)), S)
def bI2 (g : Int → Int → Int) : MF := b2 fun t u S => match asI t, asI u with
  | some i, some j => some (.d (.int (g i j)), S)
  | _, _ => none
theorem i1_rd {K : Frg} {g : Int → Int} {vs : List V} {H : Hp} {Q : VK} (h : rF K (bI1 g) vs H Q) : ∃ i, vs = [.int i] ∧ Q (.int (g i)) H := by
  obtain ⟨F, ad, S, ts, t, S', r, rs, e, k⟩ := h
  have e2 := b1_some (show b1 _ ts S = some (t, S') from e)
  clear e
  obtain ⟨_, rfl, e⟩ := e2
  obtain ⟨i, hi, e⟩ := Option.map_eq_some_iff.mp e
  cases e
  obtain ⟨x, rfl, rx⟩ := pair1 rs
  exact ⟨i, by rw [asI_ok hi rx], k F ad H _ (.refl r) (Rep.int _)⟩
theorem i2_rd {K : Frg} {g : Int → Int → Int} {vs : List V} {H : Hp} {Q : VK} (h : rF K (bI2 g) vs H Q) : ∃ i j, vs = [.int i, .int j] ∧ Q (.int (g i j)) H := by
  obtain ⟨F, ad, S, ts, t, S', r, rs, e, k⟩ := h
  have e2 := b2_some (show b2 _ ts S = some (t, S') from e)
  clear e
  obtain ⟨_, _, rfl, e⟩ := e2
  split at e
  · rename_i i j hi hj
    cases e
    obtain ⟨x, y, rfl, rx, ry⟩ := pair2 rs
    exact ⟨i, j, by rw [asI_ok hi rx, asI_ok hj ry], k F ad H _ (.refl r) (Rep.int _)⟩
  · cases e
abbrev bAbs : MF := bI1 fun i => if i < 0 then -i else i
abbrev bInt : MF := bI1 fun i => i
abbrev bMax2 : MF := bI2 fun i j => if j > i then j else i
abbrev bMin2 : MF := bI2 fun i j => if j < i then j else i
theorem f_abs : CallF X (.builtin "abs") bAbs := CallR.imp call_abs fun _ _ _ h => i1_rd h
theorem f_int : CallF X (.type "int") bInt := CallR.imp call_int1 fun _ _ _ h => .inl (i1_rd h)
theorem f_max2 (hc : X.calm = true) : CallF X (.builtin "max") bMax2 := CallR.imp (call_max2 hc) fun _ _ _ h => i2_rd h
theorem f_min2 (hc : X.calm = true) : CallF X (.builtin "min") bMin2 := CallR.imp (call_min2 hc) fun _ _ _ h => i2_rd h
/-- list(xs) -/
def bList : MF := b1 fun t S => (seqOf t S).map fun p => (.own S.length, S ++ [.lst p.2])
theorem f_list : CallF X (.type "list") bList := by
  refine CallR.imp call_list_of fun vs H Q ⟨F, ad, S, ts, t, S', r, rs, e, k⟩ => ?_
  have e2 := b1_some (show b1 _ ts S = some (t, S') from e)
  clear e
  obtain ⟨_, rfl, e⟩ := e2
  obtain ⟨q, hq, e⟩ := Option.map_eq_some_iff.mp e
  cases e
  obtain ⟨x, rfl, rx⟩ := pair1 rs
  obtain ⟨b, us⟩ := q
  obtain ⟨a, ws, rfl, _, q1, q2, rr⟩ := seqOf_ok r rx hq
  refine ⟨a, ws, rfl, ?_, fun l hl => ?_⟩
  · cases b with
    | false => exact .inl (q2 rfl)
    | true => exact .inr (q1 rfl)
  · obtain ⟨g2, q2⟩ := new_lst r hl rr
    exact k _ _ _ _ g2 q2
/-- tuple(xs) -/
def bTuple : MF := b1 fun t S => match seqOf t S with
  | some (true, ts) => (toDs ts S).map fun q => (.d (.tup q.1), q.2)
  | some (false, ts) => (toDs ts S).map fun q => (.d (.tup q.1), q.2)
  | none => none
theorem f_tuple : CallF X (.type "tuple") bTuple := by
  refine CallR.imp call_tuple_of fun vs H Q ⟨F, ad, S, ts, t, S', r, rs, e, k⟩ => ?_
  have e2 := b1_some (show b1 _ ts S = some (t, S') from e)
  clear e
  obtain ⟨_, rfl, e⟩ := e2
  split at e
  · rename_i us hq
    obtain ⟨⟨ds, S1⟩, e1, e⟩ := Option.map_eq_some_iff.mp e
    cases e
    obtain ⟨x, rfl, rx⟩ := pair1 rs
    obtain ⟨a, ws, rfl, qF, q1, q2, rr⟩ := seqOf_ok r rx hq
    obtain ⟨F2, g2, rd⟩ := toDs_ok r rr e1
    exact ⟨a, ws, rfl, .inr ⟨q1 rfl, k F2 ad H _ g2.go (Rep.tup (SqT.sub g2.st.fsub (qF rfl)) rd)⟩⟩
  · rename_i us hq
    obtain ⟨⟨ds, S1⟩, e1, e⟩ := Option.map_eq_some_iff.mp e
    cases e
    obtain ⟨x, rfl, rx⟩ := pair1 rs
    obtain ⟨a, ws, rfl, qF, q1, q2, rr⟩ := seqOf_ok r rx hq
    refine ⟨a, ws, rfl, .inl ⟨q2 rfl, fun l hl => ?_⟩⟩
    obtain ⟨F2, g2, rd⟩ := toDs_ok r rr e1
    obtain ⟨r3, s3⟩ := g2.rel.newF (o := .tup ws) hl
    exact k _ ad _ _ ⟨g2.st.trans s3, r3⟩ (Rep.tup (.of upd_same) (rd.mono s3.fsub))
  · cases e
/-- the ints of a list -/
def intsOf (t : T) (S : Cs) : Option (List Int) := match seqOf t S with
  | some (false, ts) => mapO asI ts
  | _ => none
theorem mapO_int {K : Frg} {F : Hp} {ad : List Addr} : ∀ {vs : List V} {ts : List T} {ns : List Int}, RepTs K F ad vs ts → mapO asI ts = some ns → vs = ns.map V.int
  | _, _, _, .nil, e => by unfold mapO at e; cases e; rfl
  | _, _, _, .cons q r, e => by
    unfold mapO at e
    obtain ⟨p1, e1, e⟩ := bind_some e
    obtain ⟨pr, e2, e⟩ := Option.map_eq_some_iff.mp e
    cases e
    rw [asI_ok e1 q, mapO_int r e2]
    rfl
theorem intsOf_ok {K : Frg} {F : Hp} {ad : List Addr} {S : Cs} {H : Hp} {v : V} {t : T} {ns : List Int} (g : RelS K F ad S H) (r : RepT K F ad v t) (e : intsOf t S = some ns) : ∃ a, v = .ref a ∧ SqL K H a (ns.map V.int) := by
  unfold intsOf at e
  split at e
  · rename_i ts h
    obtain ⟨a, vs, rfl, _, _, q, rr⟩ := seqOf_ok g r h
    have e2 := mapO_int rr e
    rw [← e2]
    exact ⟨a, rfl, q rfl⟩
  · cases e
def bSum : MF := b1 fun t S => (intsOf t S).map fun ns => (.d (.int ns.sum), S)
theorem f_sum (hc : X.calm = true) : CallF X (.builtin "sum") bSum := by
  refine CallR.imp (cr_sum hc) fun vs H Q ⟨F, ad, S, ts, t, S', r, rs, e, k⟩ => ?_
  have e2 := b1_some (show b1 _ ts S = some (t, S') from e)
  clear e
  obtain ⟨_, rfl, e⟩ := e2
  obtain ⟨ns, hq, e⟩ := Option.map_eq_some_iff.mp e
  cases e
  obtain ⟨x, rfl, rx⟩ := pair1 rs
  obtain ⟨a, rfl, q⟩ := intsOf_ok r rx hq
  exact ⟨a, ns, rfl, q, k F ad H _ (.refl r) (Rep.int _)⟩
/-- the greatest of a list that is not empty -/
def maxI : List Int → Int
  | [] => 0
  | [a] => a
  | a :: b :: l => max a (maxI (b :: l))
def minI : List Int → Int
  | [] => 0
  | [a] => a
  | a :: b :: l => min a (minI (b :: l))
theorem maxI_mem : ∀ (l : List Int), l ≠ [] → maxI l ∈ l
  | [a], _ => by simp [maxI]
  | a :: b :: l, _ => by
    have h := maxI_mem (b :: l) (by simp)
    show max a (maxI (b :: l)) ∈ a :: b :: l
    rcases Int.le_total a (maxI (b :: l)) with q | q
    · rw [Int.max_eq_right q]; exact List.mem_cons_of_mem _ h
    · rw [Int.max_eq_left q]; exact List.mem_cons_self
theorem maxI_ge : ∀ (l : List Int) (y : Int), y ∈ l → y ≤ maxI l
  | [a], y, h => by simp at h; rw [h]; exact Int.le_refl _
  | a :: b :: l, y, h => by
    show y ≤ max a (maxI (b :: l))
    rcases List.mem_cons.mp h with rfl | h
    · exact Int.le_max_left _ _
    · exact Int.le_trans (maxI_ge (b :: l) y h) (Int.le_max_right _ _)
theorem minI_mem : ∀ (l : List Int), l ≠ [] → minI l ∈ l
  | [a], _ => by simp [minI]
  | a :: b :: l, _ => by
    have h := minI_mem (b :: l) (by simp)
    show min a (minI (b :: l)) ∈ a :: b :: l
    rcases Int.le_total a (minI (b :: l)) with q | q
    · rw [Int.min_eq_left q]; exact List.mem_cons_self
    · rw [Int.min_eq_right q]; exact List.mem_cons_of_mem _ h
theorem minI_le : ∀ (l : List Int) (y : Int), y ∈ l → minI l ≤ y
  | [a], y, h => by simp at h; rw [h]; exact Int.le_refl _
  | a :: b :: l, y, h => by
    show min a (minI (b :: l)) ≤ y
    rcases List.mem_cons.mp h with rfl | h
    · exact Int.min_le_left _ _
    · exact Int.le_trans (Int.min_le_right _ _) (minI_le (b :: l) y h)
def bMax : MF := b1 fun t S => match intsOf t S with
  | some (n :: ns) => some (.d (.int (maxI (n :: ns))), S)
  | _ => none
def bMin : MF := b1 fun t S => match intsOf t S with
  | some (n :: ns) => some (.d (.int (minI (n :: ns))), S)
  | _ => none
theorem f_max (hc : X.calm = true) : CallF X (.builtin "max") bMax := by
  refine CallR.imp (cr_max hc) fun vs H Q ⟨F, ad, S, ts, t, S', r, rs, e, k⟩ => ?_
  have e2 := b1_some (show b1 _ ts S = some (t, S') from e)
  clear e
  obtain ⟨_, rfl, e⟩ := e2
  split at e
  · rename_i n ns hq
    cases e
    obtain ⟨x, rfl, rx⟩ := pair1 rs
    obtain ⟨a, rfl, q⟩ := intsOf_ok r rx hq
    refine ⟨a, n :: ns, rfl, q, by simp, fun m hm hy => ?_⟩
    have e : m = maxI (n :: ns) := Int.le_antisymm (maxI_ge _ _ hm) (hy _ (maxI_mem _ (by simp)))
    rw [e]
    exact k F ad H _ (.refl r) (Rep.int _)
  · cases e
theorem f_min (hc : X.calm = true) : CallF X (.builtin "min") bMin := by
  refine CallR.imp (cr_min hc) fun vs H Q ⟨F, ad, S, ts, t, S', r, rs, e, k⟩ => ?_
  have e2 := b1_some (show b1 _ ts S = some (t, S') from e)
  clear e
  obtain ⟨_, rfl, e⟩ := e2
  split at e
  · rename_i n ns hq
    cases e
    obtain ⟨x, rfl, rx⟩ := pair1 rs
    obtain ⟨a, rfl, q⟩ := intsOf_ok r rx hq
    refine ⟨a, n :: ns, rfl, q, by simp, fun m hm hy => ?_⟩
    have e : m = minI (n :: ns) := Int.le_antisymm (hy _ (minI_mem _ (by simp))) (minI_le _ _ hm)
    rw [e]
    exact k F ad H _ (.refl r) (Rep.int _)
  · cases e
/-! ### isinstance with a built-in class -/
def tyD (t : T) (S : Cs) : Option String := match deref t S with
  | .d .non => some "NoneType"
  | .d (.bl _) => some "bool"
  | .d (.int _) => some "int"
  | .d (.str _) => some "str"
  | .d (.tup _) => some "tuple"
  | .d (.lst _) => some "list"
  | .own p => (match S[p]? with
    | some (.lst _) => some "list"
    | _ => none)
  | _ => none
theorem SqT.tyX {K : Frg} {H : Hp} {a : Addr} {xs : List V} (h : SqT K H a xs) : TyX K H (.ref a) (.type "tuple") := by
  rcases h with (h | ⟨o, h⟩) | ⟨o, its, n, h, c, _⟩
  · exact .base (.tup h)
  · exact .fTuple h
  · exact .kTuple h c
theorem tyD_ok {K : Frg} {F : Hp} {ad : List Addr} {S : Cs} {H : Hp} {v : V} {t : T} {n : String} (g : RelS K F ad S H) (r : RepT K F ad v t) (e : tyD t S = some n) : TyX K H v (.type n) := by
  have r := deref_ok g r
  unfold tyD at e
  split at e
  · rename_i h; rw [h] at r; cases e; rw [r.non]; exact .base .non
  · rename_i h; rw [h] at r; cases e; rw [r.bl]; exact .base (.bl _)
  · rename_i h; rw [h] at r; cases e; rw [r.int]; exact .base (.int _)
  · rename_i h; rw [h] at r; cases e; rw [r.str]; exact .base (.str _)
  · rename_i ds h; rw [h] at r; cases e
    cases (show Rep K F v (.tup ds) from r) with
    | tup q rs => exact SqT.tyX (SqT.sub g.sub q)
  · rename_i ds h; rw [h] at r; cases e
    cases (show Rep K F v (.lst ds) from r) with
    | lst q rs => exact .base (.lst (g.sub _ _ q))
  · rename_i p h
    rw [h] at r
    obtain ⟨a, hp, rfl⟩ := r
    split at e
    · rename_i us h1
      cases e
      obtain ⟨_, vs, hH, rs⟩ := g.cells p a _ hp h1
      exact .base (.lst hH)
    · cases e
  · cases e
/-- isinstance's answer for two built-in classes -/
def kit (a b : String) : Option Bool :=
  if a = b then some true
  else if (a ∈ ["NoneType", "bool", "int", "str", "tuple", "list"]) ∧ (b ∈ ["bool", "int", "str", "tuple", "list"]) then some (decide (a = "bool" ∧ b = "int")) else none
theorem kit_ok {K : Frg} {a b : String} {r : Bool} (h : kit a b = some r) : PySem.W.kitOne K (.type a) (.type b) = some r := by
  unfold kit at h
  split at h
  · rename_i e
    cases h
    subst e
    refine kit_ty ?_
    unfold kitB
    rw [if_pos (by simp)]
  · split at h
    · rename_i n q
      cases h
      refine kit_ty ?_
      obtain ⟨qa, qb⟩ := q
      simp only [List.mem_cons, List.not_mem_nil, or_false] at qa qb
      rcases qa with rfl | rfl | rfl | rfl | rfl | rfl <;> rcases qb with rfl | rfl | rfl | rfl | rfl <;> first | exact absurd rfl n | decide +kernel
    · cases h
def bIsi : MF := b2 fun t u S => match u with
  | .d (.ty b) => (tyD t S).bind fun a => (kit a b).map fun r => (.d (.bl r), S)
  | _ => none
theorem f_isi : CallF X (.builtin "isinstance") bIsi := by
  refine CallR.imp call_isi fun vs H Q ⟨F, ad, S, ts, t, S', r, rs, e, k⟩ => ?_
  have e2 := b2_some (show b2 _ ts S = some (t, S') from e)
  clear e
  obtain ⟨_, _, rfl, e⟩ := e2
  split at e
  · rename_i b
    obtain ⟨a, ea, e⟩ := bind_some e
    obtain ⟨c, ec, e⟩ := Option.map_eq_some_iff.mp e
    cases e
    obtain ⟨x, y, rfl, rx, ry⟩ := pair2 rs
    cases (show Rep _ F y (.ty b) from ry)
    exact ⟨x, .ty b, .type a, .type b, c, rfl, .ty b, tyD_ok r rx ea, kit_ok ec, k F ad H _ (.refl r) (Rep.bl _)⟩
  · cases e
theorem fe_ty {x : Str} {n : String} {u : Value} {pos : Pos} (hg : Gl X x) (hm : X.mg x = none) (hv : bootBuiltins x = some u) (r : RelV (.ty n) u) (hn : x ≠ "__name__" := by decide) (hd : (x == ("__debug__" : Str)) = false := by decide) : FE X (.Name x pos) (cK (.ty n)) :=
  fe_K (pe_bltn hg hm hv r hn hd) fun _ _ => .ty n
/-! ### any, all -/
def asB : T → Option Bool
  | .d (.bl b) => some b
  | _ => none
def bsOf (t : T) (S : Cs) : Option (List Bool) := match seqOf t S with
  | some (false, ts) => mapO asB ts
  | _ => none
theorem asB_ok {K : Frg} {F : Hp} {ad : List Addr} {v : V} {t : T} {i : Bool} (e : asB t = some i) (r : RepT K F ad v t) : v = .bl i := by
  unfold asB at e
  split at e
  · cases e; exact r.bl
  · cases e
theorem mapO_bl {K : Frg} {F : Hp} {ad : List Addr} : ∀ {vs : List V} {ts : List T} {ns : List Bool}, RepTs K F ad vs ts → mapO asB ts = some ns → vs = ns.map V.bl
  | _, _, _, .nil, e => by unfold mapO at e; cases e; rfl
  | _, _, _, .cons q r, e => by
    unfold mapO at e
    obtain ⟨p1, e1, e⟩ := bind_some e
    obtain ⟨pr, e2, e⟩ := Option.map_eq_some_iff.mp e
    cases e
    rw [asB_ok e1 q, mapO_bl r e2]
    rfl
theorem bsOf_ok {K : Frg} {F : Hp} {ad : List Addr} {S : Cs} {H : Hp} {v : V} {t : T} {ns : List Bool} (g : RelS K F ad S H) (r : RepT K F ad v t) (e : bsOf t S = some ns) : ∃ a, v = .ref a ∧ SqL K H a (ns.map V.bl) := by
  unfold bsOf at e
  split at e
  · rename_i ts h
    obtain ⟨a, vs, rfl, _, _, q, rr⟩ := seqOf_ok g r h
    have e2 := mapO_bl rr e
    rw [← e2]
    exact ⟨a, rfl, q rfl⟩
  · cases e
def bAny : MF := b1 fun t S => (bsOf t S).map fun ns => (.d (.bl (ns.any id)), S)
def bAll : MF := b1 fun t S => (bsOf t S).map fun ns => (.d (.bl (ns.all id)), S)
theorem f_any (hc : X.calm = true) : CallF X (.builtin "any") bAny := by
  refine CallR.imp (cr_any hc) fun vs H Q ⟨F, ad, S, ts, t, S', r, rs, e, k⟩ => ?_
  have e2 := b1_some (show b1 _ ts S = some (t, S') from e)
  clear e
  obtain ⟨_, rfl, e⟩ := e2
  obtain ⟨ns, hq, e⟩ := Option.map_eq_some_iff.mp e
  cases e
  obtain ⟨x, rfl, rx⟩ := pair1 rs
  obtain ⟨a, rfl, q⟩ := bsOf_ok r rx hq
  exact ⟨a, ns, rfl, q, k F ad H _ (.refl r) (Rep.bl _)⟩
theorem f_all (hc : X.calm = true) : CallF X (.builtin "all") bAll := by
  refine CallR.imp (cr_all hc) fun vs H Q ⟨F, ad, S, ts, t, S', r, rs, e, k⟩ => ?_
  have e2 := b1_some (show b1 _ ts S = some (t, S') from e)
  clear e
  obtain ⟨_, rfl, e⟩ := e2
  obtain ⟨ns, hq, e⟩ := Option.map_eq_some_iff.mp e
  cases e
  obtain ⟨x, rfl, rx⟩ := pair1 rs
  obtain ⟨a, rfl, q⟩ := bsOf_ok r rx hq
  exact ⟨a, ns, rfl, q, k F ad H _ (.refl r) (Rep.bl _)⟩
end
end FL
/-! FL: methods of lists, targets, statements, loops, comprehensions, defs. -/
namespace FL
open PySem PySem.Spec PyProof.Rows L2
section
variable {X : Cx}
/-! ### sorted of ints -/
def srt (ns : List Int) : List Int := ns.mergeSort (fun a b => decide (a ≤ b))
theorem srt_perm (ns : List Int) : (srt ns).Perm ns := List.mergeSort_perm _ _
theorem srt_le (ns : List Int) : (srt ns).Pairwise (· ≤ ·) := by
  have h := List.pairwise_mergeSort (le := fun a b : Int => decide (a ≤ b)) (fun a b c h1 h2 => by simp at *; omega) (fun a b => by simp; omega) ns
  exact h.imp fun h => by simpa using h
theorem srt_eq {ns ns' : List Int} (hp : ns'.Perm ns) (hs : ns'.Pairwise (· ≤ ·)) : ns' = srt ns :=
  (hp.trans (srt_perm ns).symm).eq_of_pairwise (fun x y _ _ h1 h2 => Int.le_antisymm h1 h2) hs (srt_le ns)
def bSortI : MF := b1 fun t S => (intsOf t S).map fun ns => (.own S.length, S ++ [.lst ((srt ns).map fun i => .d (.int i))])
theorem f_sortI : CallF X (.builtin "sorted") bSortI := by
  refine CallR.imp cr_sortedI fun vs H Q ⟨F, ad, S, ts, t, S', r, rs, e, k⟩ => ?_
  have e2 := b1_some (show b1 _ ts S = some (t, S') from e)
  clear e
  obtain ⟨_, rfl, e⟩ := e2
  obtain ⟨ns, hq, e⟩ := Option.map_eq_some_iff.mp e
  cases e
  obtain ⟨x, rfl, rx⟩ := pair1 rs
  obtain ⟨a, rfl, q⟩ := intsOf_ok r rx hq
  refine ⟨a, ns, rfl, q, fun ns' p h1 h2 hp => ?_⟩
  obtain ⟨g2, q2⟩ := new_lst r hp (scr_ts (K := X.K) (F := F) (ad := ad) ns')
  rw [srt_eq h1 h2] at g2 ⊢
  exact k _ _ _ _ g2 q2
/-! ### methods of lists -/
abbrev NF := T → List T → Cs → Option (T × Cs)
def rN (K : Frg) (g : NF) : V → List V → Hp → VK → Prop := fun x vs H Q => ∃ F ad S tx ts t S', RelS K F ad S H ∧ RepT K F ad x tx ∧ RepTs K F ad vs ts ∧ g tx ts S = some (t, S') ∧
  ∀ F' ad' H' v, Go K F ad H F' ad' H' S' → RepT K F' ad' v t → Q v H'
def MtF (X : Cx) (id : String) (g : NF) : Prop := MtR X id (rN X.K g)
theorem MtR.imp {id : String} {r r' : V → List V → Hp → VK → Prop} (h : MtR X id r) (w : ∀ x vs H Q, r' x vs H Q → r x vs H Q) : MtR X id r' := fun pins s σ H x xs v us Q I rx rs q => h pins s σ H x xs v us Q I rx rs (w _ _ _ _ q)
def isLst (t : T) (S : Cs) : Bool := match seqOf t S with
  | some (false, _) => true
  | _ => false
def cMt (g : NF) (fo : EF) (fs : AF) : EF := fun σ S => (fo σ S).bind fun p => if isLst p.1 p.2 = true then (fs σ p.2).bind fun q => g p.1 q.1 q.2 else none
theorem isLst_ok {K : Frg} {F : Hp} {ad : List Addr} {S : Cs} {H : Hp} {v : V} {t : T} (g : RelS K F ad S H) (r : RepT K F ad v t) (h : isLst t S = true) : tyV K "list" v H := by
  unfold isLst at h
  split at h
  · rename_i ts e
    obtain ⟨a, vs, rfl, _, _, q, _⟩ := seqOf_ok g r e
    exact .inl ⟨rfl, vs, q rfl⟩
  · cases h
section
variable {g : NF} {fo : EF} {fs : AF} {o e : Expr} {es : List Expr} {name : Str} {id : String} {apos cpos : Pos}
theorem fe_mt (slot : Slot "list" name id) (hty : typeOf (.builtin id) = pure (.type "method_descriptor")) (hm : MtF X id g) (ho : FE X o fo) (ha : FA X (e :: es) fs)
    (hbase : attributeBase o name X.env (eval o X.env) = eval o X.env := by rfl)
    (hfew : ((backTo cpos (starEach (e :: es) X.env)).all (fun x => !x.1) && (backToKw cpos (keywordEach [] X.env)).all (fun x => x.1.isSome)
      && decide ((e :: es).length + ([] : List Keyword).length + (if ([] : List Keyword).isEmpty then 0 else 1) < 30)) = true := by rfl)
    (hline : (apos.endLine == cpos.line) = true := by rfl) (hs : starEach (e :: es) X.env = (false, eval e X.env) :: starEach es X.env := by rfl) (hplain : (backTo cpos (starEach es X.env)).any (·.1) = false := by rfl) :
    FE X (.Call (.Attribute o name apos) (e :: es) [] cpos) (cMt g fo fs) := by
  refine PE.imp (pe_bm PySem.F.plainAttrs_list slot hty hm ho ha hbase hfew hline hs hplain) fun τ H Q ⟨F, ad, σ, S, t, S', r, so, e, k⟩ => ?_
  obtain ⟨⟨tx, S1⟩, e1, e⟩ := bind_some e
  simp only at e
  split at e
  · rename_i hl
    obtain ⟨⟨ts, S2⟩, e2, e⟩ := bind_some e
    exact ⟨F, ad, σ, S, tx, S1, r, so, e1, fun F1 ad1 H1 v g1 rx => ⟨isLst_ok g1.rel rx hl, F1, ad1, σ, S1, ts, S2, g1.rel, so.step g1.st, e2, fun F2 ad2 H2 vs g2 rs =>
      ⟨F2, ad2, S2, tx, ts, t, S', g2.rel, rx.step g2.st, rs, e, fun F3 ad3 H3 u g3 ru => k F3 ad3 H3 u ((g1.trans g2).trans g3) ru⟩⟩⟩
  · cases e
theorem fe_mt0 (slot : Slot "list" name id) (hty : typeOf (.builtin id) = pure (.type "method_descriptor")) (hm : MtF X id g) (ho : FE X o fo)
    (hbase : attributeBase o name X.env (eval o X.env) = eval o X.env := by rfl) (hline : (apos.endLine == cpos.line) = true := by rfl) : FE X (.Call (.Attribute o name apos) [] [] cpos) (cMt g fo aNil) := by
  refine PE.imp (pe_bm0 PySem.F.plainAttrs_list slot hty hm ho hbase hline) fun τ H Q ⟨F, ad, σ, S, t, S', r, so, e, k⟩ => ?_
  obtain ⟨⟨tx, S1⟩, e1, e⟩ := bind_some e
  simp only at e
  split at e
  · rename_i hl
    exact ⟨F, ad, σ, S, tx, S1, r, so, e1, fun F1 ad1 H1 v g1 rx => ⟨isLst_ok g1.rel rx hl,
      ⟨F1, ad1, S1, tx, [], t, S', g1.rel, rx, .nil, e, fun F3 ad3 H3 u g3 ru => k F3 ad3 H3 u (g1.trans g3) ru⟩⟩⟩
  · cases e
end
/-- what an own list holds -/
def ownOf (t : T) (S : Cs) : Option (Nat × List T) := match t with
  | .own p => (match S[p]? with
    | some (.lst ts) => some (p, ts)
    | _ => none)
  | _ => none
theorem ownOf_ok {K : Frg} {F : Hp} {ad : List Addr} {S : Cs} {H : Hp} {v : V} {t : T} {p : Nat} {ts : List T} (g : RelS K F ad S H) (r : RepT K F ad v t) (e : ownOf t S = some (p, ts)) :
    ∃ a vs, v = .ref a ∧ ad[p]? = some a ∧ S[p]? = some (.lst ts) ∧ F a = none ∧ H a = some (.lst vs) ∧ RepTs K F ad vs ts := by
  unfold ownOf at e
  split at e
  · rename_i q
    obtain ⟨a, hp, rfl⟩ := r
    split at e
    · rename_i us h1
      cases e
      obtain ⟨n, vs, hH, rs⟩ := g.cells p a _ hp h1
      exact ⟨a, vs, rfl, hp, h1, n, hH, rs⟩
    · cases e
  · cases e
theorem write_lst {K : Frg} {F : Hp} {ad : List Addr} {S : Cs} {H : Hp} {p : Nat} {a : Addr} {ts us : List T} {ws : List V} (g : RelS K F ad S H) (hp : ad[p]? = some a) (h1 : S[p]? = some (.lst ts)) (n : F a = none) (q : RepTs K F ad ws us) :
    Go K F ad H F ad (upd H a (.lst ws)) (S.set p (.lst us)) :=
  let ⟨r, s⟩ := g.write (o := .lst ws) (c := .lst us) hp h1 n ⟨n, ws, upd_same, q⟩
  ⟨s, r⟩
def mAppend : NF := fun x ts S => match ts with
  | [u] => (match ownOf x S with
    | some (p, us) => if us.length < sizeLine then some (.d .non, S.set p (.lst (us ++ [u]))) else none
    | none => none)
  | _ => none
theorem m_append : MtF X "list.append" mAppend := by
  refine MtR.imp (show MtR X "list.append" rAppend from mt_append) fun x vs H Q ⟨F, ad, S, tx, ts, t, S', r, rx, rs, e, k⟩ => ?_
  unfold mAppend at e
  split at e
  · rename_i u
    split at e
    · rename_i p us ho
      split at e
      · rename_i hl
        cases e
        obtain ⟨y, rfl, ry⟩ := pair1 rs
        obtain ⟨a, ws, rfl, hp, h1, n, hH, rr⟩ := ownOf_ok r rx ho
        refine ⟨a, ws, y, rfl, rfl, hH, by rw [Paired.length rr]; exact hl, ?_⟩
        exact k _ _ _ _ (write_lst r hp h1 n (Paired.append rr (.cons ry .nil))) Rep.non
      · cases e
    · cases e
  · cases e
def mExtend : NF := fun x ts S => match ts with
  | [u] => (match ownOf x S, lstOf u S with
    | some (p, us), some ws => if us.length + ws.length ≤ sizeLine then some (.d .non, S.set p (.lst (us ++ ws))) else none
    | _, _ => none)
  | _ => none
theorem m_extend : MtF X "list.extend" mExtend := by
  refine MtR.imp (show MtR X "list.extend" rExtend from mt_extend) fun x vs H Q ⟨F, ad, S, tx, ts, t, S', r, rx, rs, e, k⟩ => ?_
  unfold mExtend at e
  split at e
  · rename_i u
    split at e
    · rename_i p us ws ho hu
      split at e
      · rename_i hl
        cases e
        obtain ⟨y, rfl, ry⟩ := pair1 rs
        obtain ⟨a, zs, rfl, hp, h1, n, hH, rr⟩ := ownOf_ok r rx ho
        obtain ⟨b, ys, rfl, hb, ryy⟩ := lstOf_ok r ry hu
        refine ⟨a, b, zs, ys, rfl, rfl, hH, hb, by rw [Paired.length rr, Paired.length ryy]; exact hl, ?_⟩
        exact k _ _ _ _ (write_lst r hp h1 n (Paired.append rr ryy)) Rep.non
      · cases e
    · cases e
  · cases e
/-- xs.pop() -/
def mPop : NF := fun x ts S => match ts with
  | [] => (match ownOf x S with
    | some (p, us) => (us[us.length - 1]?).map fun u => (u, S.set p (.lst us.dropLast))
    | none => none)
  | _ => none
theorem Paired.dropLast {α β : Type} {R : α → β → Prop} {vs : List α} {ds : List β} (r : Paired R vs ds) : Paired R vs.dropLast ds.dropLast := by
  rw [List.dropLast_eq_take, List.dropLast_eq_take, Paired.length r]
  exact Paired.take _ r
theorem m_pop : MtF X "list.pop" mPop := by
  refine MtR.imp (show MtR X "list.pop" rPop from mt_pop) fun x vs H Q ⟨F, ad, S, tx, ts, t, S', r, rx, rs, e, k⟩ => ?_
  unfold mPop at e
  split at e
  · split at e
    · rename_i p us ho
      obtain ⟨u, hu, e⟩ := Option.map_eq_some_iff.mp e
      cases e
      obtain ⟨a, ws, rfl, hp, h1, n, hH, rr⟩ := ownOf_ok r rx ho
      obtain ⟨v, hv, rv⟩ := Paired.get rr hu
      refine ⟨a, ws, v, rfl, by cases rs; rfl, hH, by rw [Paired.length rr]; exact hv, ?_⟩
      exact k _ _ _ _ (write_lst r hp h1 n (Paired.dropLast rr)) rv
    · cases e
  · cases e
/-- xs.pop(i) -/
def mPopAt : NF := fun x ts S => match ts with
  | [i] => (match ownOf x S, asI i with
    | some (p, us), some i => (match seqIndex? i us.length with
      | some k => if -(2 ^ 63) ≤ i ∧ i < 2 ^ 63 then (us[k]?).map fun u => (u, S.set p (.lst (us.eraseIdx k))) else none
      | none => none)
    | _, _ => none)
  | _ => none
theorem Paired.eraseIdx {α β : Type} {R : α → β → Prop} : ∀ {vs : List α} {ds : List β} (n : Nat), Paired R vs ds → Paired R (vs.eraseIdx n) (ds.eraseIdx n)
  | _, _, _, .nil => .nil
  | _, _, 0, .cons _ t => t
  | _, _, n + 1, .cons q t => .cons q (Paired.eraseIdx n t)
theorem m_popAt : MtF X "list.pop" mPopAt := by
  refine MtR.imp (show MtR X "list.pop" rPopAt from mt_popAt) fun x vs H Q ⟨F, ad, S, tx, ts, t, S', r, rx, rs, e, k⟩ => ?_
  unfold mPopAt at e
  split at e
  · split at e
    · rename_i p us i ho hi
      split at e
      · rename_i j hj
        split at e
        · rename_i hb
          obtain ⟨u, hu, e⟩ := Option.map_eq_some_iff.mp e
          cases e
          obtain ⟨a, ws, rfl, hp, h1, n, hH, rr⟩ := ownOf_ok r rx ho
          obtain ⟨v, hv, rv⟩ := Paired.get rr hu
          obtain ⟨y, rfl, ry⟩ := pair1 rs
          refine ⟨a, ws, i, j, v, rfl, by rw [asI_ok hi ry], hH, hb.1, hb.2, by rw [Paired.length rr]; exact hj, hv, ?_⟩
          exact k _ _ _ _ (write_lst r hp h1 n (Paired.eraseIdx j rr)) rv
        · cases e
      · cases e
    · cases e
  · cases e
/-! ### targets -/
inductive Itm where
  | one (t : T) | tup (ts : List T)
def ItmOk (K : Frg) (F : Hp) (ad : List Addr) (v : V) : Itm → Prop
  | .one t => RepT K F ad v t
  | .tup ts => ∃ a vs, v = .ref a ∧ SqT K F a vs ∧ RepTs K F ad vs ts
/-- only the slots in is may differ -/
def Dif (is : List Nat) (τ τ' : L2.St) : Prop := τ'.length = τ.length ∧ ∀ j, j ∉ is → τ'[j]? = τ[j]?
theorem Dif.refl (is : List Nat) (τ : L2.St) : Dif is τ τ := ⟨rfl, fun _ _ => rfl⟩
theorem Dif.trans {is js : List Nat} {τ τ' τ'' : L2.St} (a : Dif is τ τ') (b : Dif js τ' τ'') : Dif (is ++ js) τ τ'' :=
  ⟨b.1.trans a.1, fun j h => (b.2 j fun z => h (List.mem_append_right _ z)).trans (a.2 j fun z => h (List.mem_append_left _ z))⟩
abbrev GF := Itm → Sg → Cs → Option (Sg × Cs)
abbrev GsF := List T → Sg → Cs → Option (Sg × Cs)
def tG (K : Frg) (is : List Nat) (g : GF) : TG := fun v τ H Q => ∃ F ad σ S it σ' S', RelS K F ad S H ∧ SlotsOk K F ad σ τ ∧ ItmOk K F ad v it ∧ g it σ S = some (σ', S') ∧
  ∀ τ' H' F' ad', Go K F ad H F' ad' H' S' → SlotsOk K F' ad' σ' τ' → Dif is τ τ' → Q τ' H'
def tGs (K : Frg) (is : List Nat) (g : GsF) : TGs := fun vs τ H Q => ∃ F ad σ S ts σ' S', RelS K F ad S H ∧ SlotsOk K F ad σ τ ∧ RepTs K F ad vs ts ∧ g ts σ S = some (σ', S') ∧
  ∀ τ' H' F' ad', Go K F ad H F' ad' H' S' → SlotsOk K F' ad' σ' τ' → Dif is τ τ' → Q τ' H'
def FG (X : Cx) (tg : Expr) (is : List Nat) (g : GF) : Prop := PG X tg (tG X.K is g)
def FGs (X : Cx) (tg : List Expr) (is : List Nat) (g : GsF) : Prop := PGs X tg (tGs X.K is g)
theorem PG.imp {tg : Expr} {t t' : TG} (h : PG X tg t) (w : ∀ v τ H Q, t' v τ H Q → t v τ H Q) : PG X tg t' := ⟨fun pins s σ H v u Q I r q => h.run pins s σ H v u Q I r (w _ _ _ _ q)⟩
theorem PGs.imp {tg : List Expr} {t t' : TGs} (h : PGs X tg t) (w : ∀ v τ H Q, t' v τ H Q → t v τ H Q) : PGs X tg t' := ⟨fun pins s σ H v u Q I r q => h.run pins s σ H v u Q I r (w _ _ _ _ q)⟩
def gN (i : Nat) : GF := fun it σ S => match it with
  | .one t => some (σ.set i (some t), S)
  | .tup ts => (toDs ts S).map fun q => (σ.set i (some (.d (.tup q.1))), q.2)
theorem set_dif (τ : L2.St) (i : Nat) (v : V) : Dif [i] τ (τ.set i (some v)) := ⟨by simp, fun j h => by rw [List.getElem?_set_ne (fun e => h (by simp [e]))]⟩
theorem fg_name (i : Nat) {x : Str} {pos : Pos} (hN : X.N.Nodup) (hi : X.N[i]? = some x := by rfl) (hx : Loc X.env.scope x := by first | exact Or.inl rfl | exact Or.inr rfl) (hf : X.fn x = true ∨ X.env.scope.names.lookup x = some .local := by first | exact .inl rfl | exact .inr rfl | assumption) : FG X (.Name x pos) [i] (gN i) := by
  refine PG.imp (pg_name hN hi hx hf) fun v τ H Q ⟨F, ad, σ, S, it, σ', S', r, so, ri, e, k⟩ => ?_
  cases it with
  | one t =>
    cases e
    exact k _ H F ad (.refl r) (so.set ri i) (set_dif _ _ _)
  | tup ts =>
    obtain ⟨a, vs, rfl, q, rs⟩ := ri
    obtain ⟨⟨ds, S1⟩, e1, e⟩ := Option.map_eq_some_iff.mp e
    cases e
    obtain ⟨F1, g1, p1⟩ := toDs_ok r rs e1
    exact k _ H F1 ad g1.go ((so.step g1.st).set (t := .d (.tup ds)) (Rep.tup (SqT.sub g1.st.fsub q) p1) i) (set_dif _ _ _)
def gNil : GsF := fun ts σ S => match ts with
  | [] => some (σ, S)
  | _ => none
def gCons (g : GF) (gs : GsF) : GsF := fun ts σ S => match ts with
  | t :: r => (g (.one t) σ S).bind fun q => gs r q.1 q.2
  | [] => none
theorem fgs_nil : FGs X [] [] gNil := by
  refine PGs.imp pgs_nil fun v τ H Q ⟨F, ad, σ, S, ts, σ', S', r, so, rs, e, k⟩ => ?_
  unfold gNil at e
  split at e
  · cases e
    cases rs
    exact ⟨rfl, k τ H F ad (.refl r) so (.refl _ _)⟩
  · cases e
theorem fgs_cons {e : Expr} {es : List Expr} {is js : List Nat} {g : GF} {gs : GsF} (h1 : FG X e is g) (h2 : FGs X es js gs)
    (hs : (assignEach (e :: es) X.env).map (·.2) = assign e X.env :: (assignEach es X.env).map (·.2) := by rfl) : FGs X (e :: es) (is ++ js) (gCons g gs) := by
  refine PGs.imp (pgs_cons h1 h2 hs) fun v τ H Q ⟨F, ad, σ, S, ts, σ', S', r, so, rs, e, k⟩ => ?_
  unfold gCons at e
  split at e
  · rename_i t tr
    cases rs with
    | cons q qr =>
      obtain ⟨⟨σ1, S1⟩, e1, e⟩ := bind_some e
      exact ⟨_, _, rfl, F, ad, σ, S, .one t, σ1, S1, r, so, q, e1, fun τ1 H1 F1 ad1 g1 so1 d1 => ⟨F1, ad1, σ1, S1, tr, σ', S', g1.rel, so1, RepTs.step g1.st qr, e, fun τ2 H2 F2 ad2 g2 so2 d2 => k τ2 H2 F2 ad2 (g1.trans g2) so2 (d1.trans d2)⟩⟩
  · cases e
/-- the parts of an item that is a tuple -/
def partsOf (it : Itm) (S : Cs) : Option (List T) := match it with
  | .tup ts => some ts
  | .one t => (asT t S).map fun ds => ds.map .d
theorem partsOf_ok {K : Frg} {F : Hp} {ad : List Addr} {S : Cs} {H : Hp} {v : V} {it : Itm} {ts : List T} (g : RelS K F ad S H) (r : ItmOk K F ad v it) (e : partsOf it S = some ts) : ∃ a vs, v = .ref a ∧ SqT K F a vs ∧ RepTs K F ad vs ts := by
  cases it with
  | tup us => cases e; exact r
  | one t =>
    obtain ⟨ds, e1, e⟩ := Option.map_eq_some_iff.mp e
    cases e
    obtain ⟨a, vs, rfl, q, rs⟩ := asT_ok g r e1
    exact ⟨a, vs, rfl, q, rs.ts⟩
def gT (n : Nat) (gs : GsF) : GF := fun it σ S => (partsOf it S).bind fun ts => if ts.length = n then gs ts σ S else none
theorem fg_tup {es : List Expr} {k : Nat} {is : List Nat} {gs : GsF} {n : Nat} {pos : Pos} (hc : X.calm = true) (h : FGs X es is gs)
    (hn : (assignEach es X.env).length = n := by rfl) (hst : (assignEach es X.env).findIdx? (·.1) = none := by rfl) : FG X (.Tuple es k pos) is (gT n gs) := by
  refine PG.imp (pg_tup hc h hn hst) fun v τ H Q ⟨F, ad, σ, S, it, σ', S', r, so, ri, e, k⟩ => ?_
  obtain ⟨ts, e1, e⟩ := bind_some e
  split at e
  · rename_i hl
    obtain ⟨a, vs, rfl, q, rs⟩ := partsOf_ok r ri e1
    exact ⟨a, vs, rfl, SqT.sub r.sub q, by rw [Paired.length rs]; exact hl, F, ad, σ, S, ts, σ', S', r, so, rs, e, k⟩
  · cases e
/-! ### statements -/
def cSeq (f g : SF) : SF := fun σ S => (f σ S).bind fun o => match o.1 with
  | .nx => g o.2.1 o.2.2
  | _ => some o
def cNx : SF := fun σ S => some (.nx, σ, S)
theorem Fin.go {K : Frg} {F F1 : Hp} {ad ad1 : List Addr} {H H1 : Hp} {S1 : Cs} {D : Ends} {o : Fl × Sg × Cs} (f : Fin K F ad H D o) (g : Go K F ad H F1 ad1 H1 S1) : Fin K F1 ad1 H1 D o := by
  obtain ⟨fl, σ, S⟩ := o
  cases fl with
  | nx => exact fun F' ad' H' τ' g' so => f F' ad' H' τ' (g.trans g') so
  | bk => exact fun F' ad' H' τ' g' so => f F' ad' H' τ' (g.trans g') so
  | ct => exact fun F' ad' H' τ' g' so => f F' ad' H' τ' (g.trans g') so
  | rt t => exact fun F' ad' H' v g' rv => f F' ad' H' v (g.trans g') rv
section
variable {st : Stmt} {rest : List Stmt} {f g : SF} {e : Expr} {fe : EF} {pos : Pos}
theorem fss_nil : FSs X [] cNx := PSs.imp pss_nil fun D τ H ⟨F, ad, σ, S, o, r, so, e, k⟩ => by
  cases e
  exact k F ad H τ (.refl r) so
theorem fss_cons (h1 : FS X st f) (h2 : FSs X rest g) : FSs X (st :: rest) (cSeq f g) := by
  refine PSs.imp (pss_cons h1 h2) fun D τ H ⟨F, ad, σ, S, o, r, so, e, k⟩ => ?_
  obtain ⟨⟨fl, σ1, S1⟩, e1, e⟩ := bind_some e
  refine ⟨F, ad, σ, S, _, r, so, e1, ?_⟩
  cases fl with
  | nx => exact fun F1 ad1 H1 τ1 g1 so1 => ⟨F1, ad1, σ1, S1, o, g1.rel, so1, e, k.go g1⟩
  | bk => cases e; exact k
  | ct => cases e; exact k
  | rt t => cases e; exact k
theorem fss_one (h1 : FS X st f) : FSs X [st] f := pss_one h1
theorem fs_pass : FS X (.Pass pos) cNx := PS.imp ps_pass fun D τ H ⟨F, ad, σ, S, o, r, so, e, k⟩ => by
  cases e
  exact k F ad H τ (.refl r) so
def cBk : SF := fun σ S => some (.bk, σ, S)
def cCt : SF := fun σ S => some (.ct, σ, S)
theorem fs_break : FS X (.Break pos) cBk := PS.imp ps_break fun D τ H ⟨F, ad, σ, S, o, r, so, e, k⟩ => by
  cases e
  exact k F ad H τ (.refl r) so
theorem fs_continue : FS X (.Continue pos) cCt := PS.imp ps_continue fun D τ H ⟨F, ad, σ, S, o, r, so, e, k⟩ => by
  cases e
  exact k F ad H τ (.refl r) so
/-- never reached -/
def cNever : SF := fun _ _ => none
theorem fs_never : FS X st cNever := PS.imp ps_never fun D τ H ⟨F, ad, σ, S, o, r, so, e, k⟩ => by cases e
theorem fss_never {sts : List Stmt} : FSs X sts cNever := PSs.imp pss_never fun D τ H ⟨F, ad, σ, S, o, r, so, e, k⟩ => by cases e
theorem fs_doc {x j pos'} : FS X (.Expr (.Constant (.str x) j pos') pos) cNx := PS.imp ps_doc fun D τ H ⟨F, ad, σ, S, o, r, so, e, k⟩ => by
  cases e
  exact k F ad H τ (.refl r) so
def cDrop (f : EF) : SF := fun σ S => (f σ S).map fun p => (.nx, σ, p.2)
theorem fs_expr (he : FE X e fe) (hs : swapsWith e none pos.line X.env = pure false := by rfl) : FS X (.Expr e pos) (cDrop fe) := by
  refine PS.imp (ps_expr he hs) fun D τ H ⟨F, ad, σ, S, o, r, so, e, k⟩ => ?_
  obtain ⟨⟨t, S1⟩, e1, e⟩ := Option.map_eq_some_iff.mp e
  cases e
  exact ⟨F, ad, σ, S, t, S1, r, so, e1, fun F1 ad1 H1 v g1 rv => k F1 ad1 H1 τ g1 (so.step g1.st)⟩
def cRet (f : EF) : SF := fun σ S => (f σ S).map fun p => (.rt p.1, σ, p.2)
theorem fs_ret (he : FE X e fe) : FS X (.Return (some e) pos) (cRet fe) := by
  refine PS.imp (ps_ret he) fun D τ H ⟨F, ad, σ, S, o, r, so, e, k⟩ => ?_
  obtain ⟨⟨t, S1⟩, e1, e⟩ := Option.map_eq_some_iff.mp e
  cases e
  exact ⟨F, ad, σ, S, t, S1, r, so, e1, fun F1 ad1 H1 v g1 rv => k F1 ad1 H1 v g1 rv⟩
def cRetN : SF := fun σ S => some (.rt (.d .non), σ, S)
theorem fs_retN : FS X (.Return none pos) cRetN := PS.imp ps_retN fun D τ H ⟨F, ad, σ, S, o, r, so, e, k⟩ => by
  cases e
  exact k F ad H .non (.refl r) Rep.non
def cIfS (c : BF) (f g : SF) : SF := fun σ S => (c σ S).bind fun p => if p.1 = true then f σ p.2 else g σ p.2
theorem fs_if {c : Expr} {a b : List Stmt} {fc : BF} (hc : FB X c fc) (ha : FSs X a f) (hb : FSs X b g) : FS X (.If c a b pos) (cIfS fc f g) := by
  refine PS.imp (ps_if hc ha hb) fun D τ H ⟨F, ad, σ, S, o, r, so, e, k⟩ => ?_
  obtain ⟨⟨c1, S1⟩, e1, e⟩ := bind_some e
  refine ⟨F, ad, σ, S, c1, S1, r, so, e1, fun F1 ad1 H1 g1 => ?_⟩
  cases c1 with
  | true => exact ⟨F1, ad1, σ, S1, o, g1.rel, so.step g1.st, e, k.go g1⟩
  | false => exact ⟨F1, ad1, σ, S1, o, g1.rel, so.step g1.st, e, k.go g1⟩
def cSet (i : Nat) (f : EF) : SF := fun σ S => (f σ S).map fun p => (.nx, σ.set i (some p.1), p.2)
theorem fs_set (i : Nat) {x : Str} {pos' : Pos} (he : FE X e fe) (hN : X.N.Nodup) (hi : X.N[i]? = some x := by rfl) (hx : Loc X.env.scope x := by first | exact Or.inl rfl | exact Or.inr rfl) (hs : swapsWith e (some (.Name x pos')) pos.line X.env = pure false := by rfl)
    (hf : X.fn x = true ∨ X.env.scope.names.lookup x = some .local := by first | exact .inl rfl | exact .inr rfl | assumption) : FS X (.Assign [.Name x pos'] e pos) (cSet i fe) := by
  refine PS.imp (ps_set hN hi hx he hs hf) fun D τ H ⟨F, ad, σ, S, o, r, so, e, k⟩ => ?_
  obtain ⟨⟨t, S1⟩, e1, e⟩ := Option.map_eq_some_iff.mp e
  cases e
  exact ⟨F, ad, σ, S, t, S1, r, so, e1, fun F1 ad1 H1 v g1 rv => k F1 ad1 H1 _ g1 ((so.step g1.st).set rv i)⟩
/-- a, b = e -/
def cAsgT (g : GF) (f : EF) : SF := fun σ S => (f σ S).bind fun p => (g (.one p.1) σ p.2).map fun q => (.nx, q.1, q.2)
theorem fs_asgT {tg : Expr} {is : List Nat} {gt : GF} (he : FE X e fe) (hg : FG X tg is gt) (hs : swapsWithSole [tg] e pos.line X.env = pure false := by rfl) (hw : swappedStores [tg] e X.env = pure none := by rfl)
    (h1 : (assignEach [tg] X.env).map (·.2) = [assign tg X.env] := by rfl) : FS X (.Assign [tg] e pos) (cAsgT gt fe) := by
  refine PS.imp (ps_asg he hg hs hw h1) fun D τ H ⟨F, ad, σ, S, o, r, so, e, k⟩ => ?_
  obtain ⟨⟨t, S1⟩, e1, e⟩ := bind_some e
  obtain ⟨⟨σ2, S2⟩, e2, e⟩ := Option.map_eq_some_iff.mp e
  cases e
  exact ⟨F, ad, σ, S, t, S1, r, so, e1, fun F1 ad1 H1 v g1 rv => ⟨F1, ad1, σ, S1, .one t, σ2, S2, g1.rel, so.step g1.st, rv, e2, fun τ' H' F' ad' g2 so2 _ => k F' ad' H' τ' (g1.trans g2) so2⟩⟩
/-- o[i] = e -/
def cSub (fo fi f : EF) : SF := fun σ S => (f σ S).bind fun p => (fo σ p.2).bind fun q => (fi σ q.2).bind fun u => match ownOf q.1 u.2, asI u.1 with
  | some (k, ts), some i => (ixN ts.length i).map fun j => (.nx, σ, u.2.set k (.lst (ts.set j p.1)))
  | _, _ => none
theorem fs_sub {o i : Expr} {fo fi : EF} {pos' : Pos} (he : FE X e fe) (ho : FE X o fo) (hi : FE X i fi)
    (ha : ∀ v, assign (.Subscript o i pos') X.env v = (do
      let ov ← holding [v] (eval o X.env)
      let iv ← holding [v, ov] (eval i X.env)
      standAt pos'
      holding [v, ov, iv] (setItem ov iv v)
      release [v, ov, iv] []) := by intro _; rfl)
    (hs : swapsWithSole [.Subscript o i pos'] e pos.line X.env = pure false := by rfl) (hw : swappedStores [.Subscript o i pos'] e X.env = pure none := by rfl)
    (h1 : (assignEach [.Subscript o i pos'] X.env).map (·.2) = [assign (.Subscript o i pos') X.env] := by rfl) : FS X (.Assign [.Subscript o i pos'] e pos) (cSub fo fi fe) := by
  refine PS.imp (ps_asg he (pg_sub ho hi set_list ha) hs hw h1) fun D τ H ⟨F, ad, σ, S, o, r, so, e, k⟩ => ?_
  obtain ⟨⟨t, S1⟩, e1, e⟩ := bind_some e
  obtain ⟨⟨tq, S2⟩, e2, e⟩ := bind_some e
  obtain ⟨⟨ti, S3⟩, e3, e⟩ := bind_some e
  simp only at e
  split at e
  · rename_i p ts i ho hi
    obtain ⟨j, hj, e⟩ := Option.map_eq_some_iff.mp e
    cases e
    refine ⟨F, ad, σ, S, t, S1, r, so, e1, fun F1 ad1 H1 v g1 rv => ⟨F1, ad1, σ, S1, tq, S2, g1.rel, so.step g1.st, e2, fun F2 ad2 H2 w g2 rw => ⟨F2, ad2, σ, S2, ti, S3, g2.rel, so.step (g1.trans g2).st, e3, fun F3 ad3 H3 u g3 ru => ?_⟩⟩⟩
    obtain ⟨a, ws, rfl, hp, h1, n, hH, rr⟩ := ownOf_ok g3.rel (rw.step g3.st) ho
    refine ⟨a, ws, i, j, rfl, asI_ok hi ru, hH, by rw [Paired.length rr]; exact hj, ?_⟩
    have g4 := write_lst g3.rel hp h1 n (Paired.set (rv.step (g2.trans g3).st) j rr)
    exact k _ _ _ τ (((g1.trans g2).trans g3).trans g4) (so.step (((g1.trans g2).trans g3).trans g4).st)
  · cases e
/-- x op= e -/
def cAug (i : Nat) (g : OF) (f : EF) : SF := fun σ S => (cV i σ S).bind fun p => (f σ p.2).bind fun q => (g p.1 q.1 q.2).map fun u => (.nx, σ.set i (some u.1), u.2)
theorem fs_aug (i : Nat) {x : Str} {pos' : Pos} {op : Operator} {g : OF} (ho : OpF X (inplaceOp op) g) (he : FE X e fe) (hN : X.N.Nodup) (hi : X.N[i]? = some x := by rfl) (hx : Loc X.env.scope x := by first | exact Or.inl rfl | exact Or.inr rfl)
    (hf : X.fn x = true ∨ X.env.scope.names.lookup x = some .local := by first | exact .inl rfl | exact .inr rfl | assumption) : FS X (.AugAssign (.Name x pos') op e pos) (cAug i g fe) := by
  refine PS.imp (ps_aug hN hi hx he (show PIp X op (r2 X.K g) from fun pins s σ H x y v u Q I rx ry q => ho pins s σ H x y v u Q I rx ry q) hf) fun D τ H ⟨F, ad, σ, S, o, r, so, e, k⟩ => ?_
  obtain ⟨⟨t, S1⟩, e1, e⟩ := bind_some e
  obtain ⟨⟨tq, S2⟩, e2, e⟩ := bind_some e
  obtain ⟨⟨tu, S3⟩, e3, e⟩ := Option.map_eq_some_iff.mp e
  cases e
  unfold cV at e1
  split at e1
  · rename_i t0 h0
    cases e1
    obtain ⟨v, hv, rv⟩ := so.2 i _ h0
    exact ⟨v, hv, F, ad, σ, S, tq, S2, r, so, e2, fun F2 ad2 H2 w g2 rw => ⟨F2, ad2, S2, t, tq, tu, S3, g2.rel, rv.step g2.st, rw, e3, fun F3 ad3 H3 u g3 ru => k F3 ad3 H3 _ (g2.trans g3) ((so.step (g2.trans g3).st).set ru i)⟩⟩
  · cases e1
end
end
end FL
/-! FL: loops, comprehensions, defs. -/
namespace FL
open PySem PySem.Spec PyProof.Rows L2
open Classical in
section
variable {X : Cx}
abbrev Gs := List (Nat × List T)
/-- the lists that are walked stand as they stood -/
def gOk : Gs → Cs → Prop
  | [], _ => True
  | g :: r, S => S[g.1]? = some (.lst g.2) ∧ gOk r S
abbrev IF := Sg → Cs → Option (List Itm × Gs × Cs)
def IterOk (K : Frg) (F0 : Hp) (ad0 : List Addr) (H0 : Hp) (J : It) (items : List Itm) (gs : Gs) : Prop := ∀ F ad S H, Step F0 ad0 H0 F ad H → RelS K F ad S H → gOk gs S → ∀ i : Nat,
  (items.length ≤ i → J.stop i H) ∧ (∀ it, items[i]? = some it → J.go i H ∧ ∀ x H', J.yld i H x H' → ∃ F', Go K F ad H F' ad H' S ∧ ItmOk K F' ad x it)
def tI (K : Frg) (f : IF) : TI := fun τ H R => ∃ F ad σ S items gs S', RelS K F ad S H ∧ SlotsOk K F ad σ τ ∧ f σ S = some (items, gs, S') ∧
  ∀ F' ad' H' J, Go K F ad H F' ad' H' S' → IterOk K F' ad' H' J items gs → R J H'
def FI (X : Cx) (tg iter : Expr) (f : IF) : Prop := PI X tg iter (tI X.K f)
theorem PI.imp {tg it : Expr} {t t' : TI} (h : PI X tg it t) (w : ∀ τ H R, t' τ H R → t τ H R) : PI X tg it t' := ⟨fun pins s σ H R I q => h.run pins s σ H R I (w _ _ _ q)⟩
/-! ### what is walked -/
def iSeq (K : Frg) (tl : TE) : TI := fun σ H R => tl σ H fun x H1 => (∃ a, x = .ref a ∧ (∃ xs, SqL K H1 a xs) ∧ R (Itl K a) H1) ∨ (∃ a, x = .ref a ∧ (∃ xs, SqT K H1 a xs) ∧ R (Itt K a) H1)
theorem pi_seq {tg l : Expr} {tl : TE} (hl : PE X l tl) : PI X tg l (iSeq X.K tl) := by
  refine ⟨fun pins s σ H R I h => ?_⟩
  refine thn (hl.run pins s σ H _ I h) fun v s1 ⟨x, H1, I1, r1, q1⟩ => ?_
  rcases q1 with ⟨a, e, ⟨xs, hq⟩, q⟩ | ⟨a, e, ⟨xs, hq⟩, q⟩
  · subst e
    cases r1
    obtain ⟨its, rv, p, hz⟩ := I1.list hq
    refine wpAny_pyIter_list p.isList ?_
    refine ⟨s1.heap.objs.size, [s1.heap.objs.size], _, _, H1, rfl, I1.kept (t' := s1.toks) fun b o e => Heap.get?_push_of_some _ e, turn_list a _, ⟨_, Heap.get?_push_size _ rfl, rfl, rfl⟩, fun b hb => ?_, q⟩
    have e : b = s1.heap.objs.size := by simpa using hb
    subst e
    exact I1.fpOk (Nat.le_refl _) (I1.hok.fresh (Nat.le_refl _))
  · subst e
    cases r1
    obtain ⟨its, rv, p, hz⟩ := I1.tuple hq
    refine wpAny_pyIter_tuple (show s1.heap.IsTuple a its.toArray from p) ?_
    refine ⟨s1.heap.objs.size, [s1.heap.objs.size], _, _, H1, rfl, I1.kept (t' := s1.toks) fun b o e => Heap.get?_push_of_some _ e, turn_tuple a _, ⟨_, Heap.get?_push_size _ rfl, rfl, rfl⟩, fun b hb => ?_, q⟩
    have e : b = s1.heap.objs.size := by simpa using hb
    subst e
    exact I1.fpOk (Nat.le_refl _) (I1.hok.fresh (Nat.le_refl _))
/-- a sequence and what must stand while it is walked -/
def seqG (t : T) (S : Cs) : Option (Bool × List T × Gs) := match deref t S with
  | .d (.tup ds) => some (true, ds.map .d, [])
  | .d (.lst ds) => some (false, ds.map .d, [])
  | .d (.scr ns) => some (false, ns.map fun i => .d (.int i), [])
  | .own p => (match S[p]? with
    | some (.lst ts) => some (false, ts, [(p, ts)])
    | _ => none)
  | _ => none
/-- at every later state the sequence is there, with items that ts tells -/
theorem seqG_ok {K : Frg} {F : Hp} {ad : List Addr} {S : Cs} {H : Hp} {v : V} {t : T} {b : Bool} {ts : List T} {gs : Gs} (g : RelS K F ad S H) (r : RepT K F ad v t) (e : seqG t S = some (b, ts, gs)) :
    ∃ a, v = .ref a ∧ ∀ F' ad' S' H', Step F ad H F' ad' H' → RelS K F' ad' S' H' → gOk gs S' → ∃ vs, (b = true → SqT K H' a vs) ∧ (b = false → SqL K H' a vs) ∧ RepTs K F' ad' vs ts := by
  have r := deref_ok g r
  unfold seqG at e
  split at e
  · rename_i ds h0
    rw [h0] at r
    cases e
    cases (show Rep K F v (.tup ds) from r) with
    | tup q rs => exact ⟨_, rfl, fun F' ad' S' H' st g' _ => ⟨_, fun _ => SqT.sub g'.sub (SqT.sub st.fsub q), fun z => (Bool.noConfusion z), (rs.mono st.fsub).ts⟩⟩
  · rename_i ds h0
    rw [h0] at r
    cases e
    cases (show Rep K F v (.lst ds) from r) with
    | lst q rs => exact ⟨_, rfl, fun F' ad' S' H' st g' _ => ⟨_, fun z => (Bool.noConfusion z), fun _ => .of (g'.sub _ _ (st.fsub _ _ q)), (rs.mono st.fsub).ts⟩⟩
  · rename_i ds h0
    rw [h0] at r
    cases e
    cases (show Rep K F v (.scr ds) from r) with
    | scr q => exact ⟨_, rfl, fun F' ad' S' H' st g' _ => ⟨_, fun z => (Bool.noConfusion z), fun _ => SqL.sub g'.sub (SqL.sub st.fsub q), scr_ts ds⟩⟩
  · rename_i p h0
    rw [h0] at r
    obtain ⟨a, hp, rfl⟩ := r
    split at e
    · rename_i us h1
      cases e
      refine ⟨a, rfl, fun F' ad' S' H' st g' ok => ?_⟩
      obtain ⟨l, el, _⟩ := st.adx
      have hp' : ad'[p]? = some a := by
        rw [el, List.getElem?_append_left (List.getElem?_eq_some_iff.mp hp).1]; exact hp
      obtain ⟨_, vs, hH, rs⟩ := g'.cells p a _ hp' ok.1
      exact ⟨vs, fun z => (Bool.noConfusion z), fun _ => .of hH, rs⟩
    · cases e
  · cases e
theorem gOk_now {t : T} {S : Cs} {b : Bool} {ts : List T} {gs : Gs} (e : seqG t S = some (b, ts, gs)) : gOk gs S := by
  unfold seqG at e
  split at e
  · cases e; trivial
  · cases e; trivial
  · cases e; trivial
  · split at e
    · rename_i h1
      cases e
      exact ⟨h1, trivial⟩
    · cases e
  · cases e
def iE (f : EF) : IF := fun σ S => (f σ S).bind fun p => (seqG p.1 p.2).map fun q => (q.2.1.map .one, q.2.2, p.2)
theorem fi_seq {tg l : Expr} {f : EF} (hl : FE X l f) : FI X tg l (iE f) := by
  refine PI.imp (pi_seq hl) fun τ H R ⟨F, ad, σ, S, items, gs, S', r, so, e, k⟩ => ?_
  obtain ⟨⟨t, S1⟩, e1, e⟩ := bind_some e
  obtain ⟨⟨b, ts, gs'⟩, e2, e⟩ := Option.map_eq_some_iff.mp e
  cases e
  refine ⟨F, ad, σ, S, t, S1, r, so, e1, fun F1 ad1 H1 v g1 rv => ?_⟩
  obtain ⟨a, rfl, hk⟩ := seqG_ok g1.rel rv e2
  -- the list stands now, too
  have now : ∃ vs, (b = true → SqT X.K H1 a vs) ∧ (b = false → SqL X.K H1 a vs) := by
    have g0 := gOk_now e2
    obtain ⟨vs, h1, h2, _⟩ := hk F1 ad1 S1 H1 .refl g1.rel g0
    exact ⟨vs, h1, h2⟩
  cases b with
  | false =>
    obtain ⟨vs, _, h2⟩ := now
    refine .inl ⟨a, rfl, ⟨vs, h2 rfl⟩, k F1 ad1 H1 _ g1 fun F' ad' S' H' st g' ok i => ?_⟩
    obtain ⟨ws, _, w2, w3⟩ := hk F' ad' S' H' st g' ok
    refine ⟨fun hl => ⟨ws, w2 rfl, by rw [Paired.length w3]; simpa using hl⟩, fun it hi => ?_⟩
    rw [List.getElem?_map] at hi
    obtain ⟨u, hu, rfl⟩ := Option.map_eq_some_iff.mp hi
    obtain ⟨x, hx, rx⟩ := Paired.get w3 hu
    refine ⟨⟨ws, x, w2 rfl, hx⟩, fun y H'' hy => ?_⟩
    obtain ⟨rfl, hy⟩ := hy
    have e : y = x := Option.some.inj ((hy ws (w2 rfl)).symm.trans hx)
    subst e
    exact ⟨F', .refl g', rx⟩
  | true =>
    obtain ⟨vs, h1, _⟩ := now
    refine .inr ⟨a, rfl, ⟨vs, h1 rfl⟩, k F1 ad1 H1 _ g1 fun F' ad' S' H' st g' ok i => ?_⟩
    obtain ⟨ws, w1, _, w3⟩ := hk F' ad' S' H' st g' ok
    refine ⟨fun hl => ⟨ws, w1 rfl, by rw [Paired.length w3]; simpa using hl⟩, fun it hi => ?_⟩
    rw [List.getElem?_map] at hi
    obtain ⟨u, hu, rfl⟩ := Option.map_eq_some_iff.mp hi
    obtain ⟨x, hx, rx⟩ := Paired.get w3 hu
    refine ⟨⟨ws, x, w1 rfl, hx⟩, fun y H'' hy => ?_⟩
    obtain ⟨rfl, hy⟩ := hy
    have e : y = x := Option.some.inj ((hy ws (w1 rfl)).symm.trans hx)
    subst e
    exact ⟨F', .refl g', rx⟩
/-- lo, lo + 1, .. below hi -/
def rangeL (lo hi : Int) : List Int := (List.range (hi - lo).toNat).map fun i => lo + (i : Nat)
def inR (i : Int) : Prop := -(2 ^ 62) ≤ i ∧ i < 2 ^ 62
instance (i : Int) : Decidable (inR i) := by unfold inR; infer_instance
def itR (lo hi : Int) : List Itm := (rangeL lo hi).map fun i => .one (.d (.int i))
def iR (lo hi : Int) (S : Cs) : Option (List Itm × Gs × Cs) := if inR lo ∧ inR hi then some (itR lo hi, [], S) else none
def iRange1 (fs : AF) : IF := fun σ S => (fs σ S).bind fun p => match p.1 with
  | [t] => (asI t).bind fun j => iR 0 j p.2
  | _ => none
def iRange2 (fs : AF) : IF := fun σ S => (fs σ S).bind fun p => match p.1 with
  | [t, u] => (match asI t, asI u with
    | some i, some j => iR i j p.2
    | _, _ => none)
  | _ => none
theorem itr_ok {K : Frg} {F0 : Hp} {ad0 : List Addr} {H0 : Hp} (lo hi : Int) : IterOk K F0 ad0 H0 (Itr lo (hi - lo).toNat) (itR lo hi) [] := fun F ad S H st g ok i => by
  unfold itR rangeL
  refine ⟨fun hl => ?_, fun it hi => ?_⟩
  · show (hi - lo).toNat ≤ i
    rw [List.length_map, List.length_map, List.length_range] at hl
    exact hl
  rw [List.getElem?_map, List.getElem?_map] at hi
  obtain ⟨u, hu, rfl⟩ := Option.map_eq_some_iff.mp hi
  obtain ⟨j, hj, rfl⟩ := Option.map_eq_some_iff.mp hu
  obtain ⟨h1, h2⟩ := List.getElem?_eq_some_iff.mp hj
  rw [List.length_range] at h1
  rw [List.getElem_range] at h2
  subst h2
  refine ⟨h1, fun x H' hy => ?_⟩
  obtain ⟨rfl, rfl⟩ := hy
  exact ⟨F, .refl g, Rep.int _⟩
theorem fi_range1 {tg a : Expr} {fs : AF} {p pos : Pos} (hg : Gl X "range") (hm : X.mg "range" = none) (ha : FA X [a] fs) (hs : starEach [a] X.env = [(false, eval a X.env)] := by rfl) : FI X tg (.Call (.Name "range" p) [a] [] pos) (iRange1 fs) := by
  refine PI.imp (pi_range1 hg hm ha hs) fun τ H R ⟨F, ad, σ, S, items, gs, S', r, so, e, k⟩ => ?_
  obtain ⟨⟨ts, S1⟩, e1, e⟩ := bind_some e
  refine ⟨F, ad, σ, S, ts, S1, r, so, e1, fun F1 ad1 H1 vs g1 rs => ?_⟩
  simp only at e
  split at e
  · rename_i t
    obtain ⟨j, hj, e⟩ := bind_some e
    unfold iR at e
    split at e
    · rename_i hb
      cases e
      obtain ⟨x, rfl, rx⟩ := pair1 rs
      refine ⟨j, by rw [asI_ok hj rx], hb.2.1, hb.2.2, ?_⟩
      have q := itr_ok (K := X.K) (F0 := F1) (ad0 := ad1) (H0 := H1) 0 j
      rw [Int.sub_zero] at q
      exact k F1 ad1 H1 _ g1 q
    · cases e
  · cases e
theorem fi_range2 {tg a b : Expr} {fs : AF} {p pos : Pos} (hg : Gl X "range") (hm : X.mg "range" = none) (ha : FA X [a, b] fs) (hs : starEach [a, b] X.env = [(false, eval a X.env), (false, eval b X.env)] := by rfl) (hs2 : starEach [b] X.env = [(false, eval b X.env)] := by rfl) :
    FI X tg (.Call (.Name "range" p) [a, b] [] pos) (iRange2 fs) := by
  refine PI.imp (pi_range2 hg hm ha hs hs2) fun τ H R ⟨F, ad, σ, S, items, gs, S', r, so, e, k⟩ => ?_
  obtain ⟨⟨ts, S1⟩, e1, e⟩ := bind_some e
  refine ⟨F, ad, σ, S, ts, S1, r, so, e1, fun F1 ad1 H1 vs g1 rs => ?_⟩
  simp only at e
  split at e
  · split at e
    · rename_i i j hi hj
      unfold iR at e
      split at e
      · rename_i hb
        cases e
        obtain ⟨x, y, rfl, rx, ry⟩ := pair2 rs
        exact ⟨i, j, by rw [asI_ok hi rx, asI_ok hj ry], ⟨hb.1.1, hb.1.2, hb.2.1, hb.2.2⟩, k F1 ad1 H1 _ g1 (itr_ok i j)⟩
      · cases e
    · cases e
  · cases e
/-- enumerate(a list) -/
def iEnm (fs : AF) : IF := fun σ S => (fs σ S).bind fun p => match p.1 with
  | [t] => (match seqG t p.2 with
    | some (false, ts, gs) => some ((ts.mapIdx fun i u => .tup [.d (.int (i : Nat)), u]), gs, p.2)
    | _ => none)
  | _ => none
theorem tup_new {K : Frg} {F : Hp} {ad : List Addr} {S : Cs} {H : Hp} {a : Addr} {vs : List V} {ts : List T} (g : RelS K F ad S H) (hn : H a = none) (rs : RepTs K F ad vs ts) :
    ∃ F', Go K F ad H F' ad (upd H a (.tup vs)) S ∧ ItmOk K F' ad (.ref a) (.tup ts) := by
  obtain ⟨r3, s3⟩ := g.newF (o := .tup vs) hn
  exact ⟨_, ⟨s3, r3⟩, a, vs, rfl, .of upd_same, RepTs.step s3 rs⟩
theorem fi_enum {e : Expr} {fs : AF} {p pos tpos : Pos} {elts : List Expr} {kk : Nat} (hg : Gl X "enumerate") (hm : X.mg "enumerate" = none) (ha : FA X [e] fs) (hs : starEach [e] X.env = [(false, eval e X.env)] := by rfl) :
    FI X (.Tuple elts kk tpos) (.Call (.Name "enumerate" p) [e] [] pos) (iEnm fs) := by
  refine PI.imp (pi_enum hg hm ha hs) fun τ H R ⟨F, ad, σ, S, items, gs, S', r, so, e, k⟩ => ?_
  obtain ⟨⟨ts, S1⟩, e1, e⟩ := bind_some e
  refine ⟨F, ad, σ, S, ts, S1, r, so, e1, fun F1 ad1 H1 vs g1 rs => ?_⟩
  simp only at e
  split at e
  · split at e
    · rename_i us gs' hu
      cases e
      obtain ⟨x, rfl, rx⟩ := pair1 rs
      obtain ⟨a, rfl, hk⟩ := seqG_ok g1.rel rx hu
      obtain ⟨vs, _, h2, _⟩ := hk F1 ad1 _ H1 .refl g1.rel (gOk_now hu)
      refine ⟨a, vs, rfl, h2 rfl, k F1 ad1 H1 _ g1 fun F' ad' S' H' st g' ok i => ?_⟩
      obtain ⟨ws, _, w2, w3⟩ := hk F' ad' S' H' st g' ok
      refine ⟨fun hl => ⟨ws, w2 rfl, by rw [Paired.length w3]; simpa using hl⟩, fun it hi => ?_⟩
      rw [List.getElem?_mapIdx] at hi
      obtain ⟨u, hu, rfl⟩ := Option.map_eq_some_iff.mp hi
      obtain ⟨x, hx, rx⟩ := Paired.get w3 hu
      refine ⟨⟨ws, x, w2 rfl, hx⟩, fun y H'' hy => ?_⟩
      obtain ⟨T, x', rfl, hT, rfl, hy⟩ := hy
      have e : x' = x := Option.some.inj ((hy ws (w2 rfl)).symm.trans hx)
      subst e
      exact tup_new g' hT (.cons (Rep.int _) (.cons rx .nil))
    · cases e
  · cases e
/-! ### for -/
noncomputable def loopF (g : GF) (body : SF) (cl : List Nat) (gs : Gs) : List Itm → SF
  | [], σ, S => if gOk gs S then some (.nx, σ, S) else none
  | t :: ts, σ, S => if gOk gs S then (g t σ S).bind fun q => (body q.1 q.2).bind fun o => match o.1 with
    | .nx => loopF g body cl gs ts (forget cl o.2.1) o.2.2
    | .ct => loopF g body cl gs ts (forget cl o.2.1) o.2.2
    | .bk => some (.nx, forget cl o.2.1, o.2.2)
    | .rt t => some (.rt t, o.2.1, o.2.2) else none
noncomputable def cFor (fi : IF) (g : GF) (body : SF) (cl : List Nat) : SF := fun σ S => (fi σ S).bind fun p => loopF g body cl p.2.1 p.1 (forget cl σ) p.2.2
theorem fs_for {tg iter : Expr} {body : List Stmt} {is : List Nat} {fi : IF} {g : GF} {fb : SF} {pos : Pos} (cl : List Nat) (hp : PassesOwn (model X.prog X.w) X.A X.env X.xe) (hc : X.calm = true) (hi : FI X tg iter fi) (hg : FG X tg is g) (hb : FSs X body fb)
    (hs : ∀ x, foldedSetIterable iter X.env x = pure x := by intro _; rfl) : FS X (.For tg iter body [] pos) (cFor fi g fb cl) := by
  refine PS.imp (ps_for hp hc hi hg hb hs) fun D τ H ⟨F, ad, σ, S, o, r, so, e, k⟩ => ?_
  obtain ⟨⟨items, gs, S1⟩, e1, e⟩ := bind_some e
  refine ⟨F, ad, σ, S, items, gs, S1, r, so, e1, fun F1 ad1 H1 J g1 hJ => ?_⟩
  refine ⟨fun i m τ H => ∃ F ad σ S, RelS X.K F ad S H ∧ SlotsOk X.K F ad σ τ ∧ Step F1 ad1 H1 F ad H ∧ loopF g fb cl gs (items.drop i) σ S = some o ∧ m = items.length - i ∧ Fin X.K F ad H D o,
    ⟨items.length, F1, ad1, forget cl σ, S1, g1.rel, (so.step g1.st).forget, .refl, e, rfl, k.go g1⟩, ?_⟩
  rintro i m τ H ⟨F, ad, σ, S, r, so, st, e, rfl, k⟩
  by_cases hlt : i < items.length
  · rw [List.drop_eq_getElem_cons hlt] at e
    unfold loopF at e
    split at e
    · rename_i ok
      obtain ⟨q1, q2⟩ := hJ F ad S H st r ok i
      obtain ⟨go, yl⟩ := q2 items[i] (List.getElem?_eq_getElem hlt)
      obtain ⟨⟨σ2, S2⟩, e2, e⟩ := bind_some e
      obtain ⟨⟨fl, σ3, S3⟩, e3, e⟩ := bind_some e
      simp only at e
      refine .inr ⟨go, fun τ' H' => ∃ F ad, RelS X.K F ad S3 H' ∧ SlotsOk X.K F ad σ3 τ' ∧ Step F1 ad1 H1 F ad H' ∧ loopF g fb cl gs (items.drop (i + 1)) (forget cl σ3) S3 = some o ∧ Fin X.K F ad H' D o, ?_, ?_⟩
      · rintro τ' H' ⟨F', ad', r', so', st', e', k'⟩
        exact ⟨items.length - (i + 1), by omega, F', ad', forget cl σ3, S3, r', so'.forget, st', e', rfl, k'⟩
      · intro x H' hy
        obtain ⟨F', g', ri⟩ := yl x H' hy
        refine ⟨F', ad, σ, S, items[i], σ2, S2, g'.rel, so.step g'.st, ri, e2, fun τ2 H2 F2 ad2 g2 so2 _ => ?_⟩
        have gg := g'.trans g2
        refine ⟨F2, ad2, σ2, S2, (fl, σ3, S3), g2.rel, so2, e3, ?_⟩
        cases fl with
        | nx => exact fun F3 ad3 H3 τ3 g3 so3 => ⟨F3, ad3, g3.rel, so3, st.trans (gg.trans g3).st, e, k.go (gg.trans g3)⟩
        | ct => exact fun F3 ad3 H3 τ3 g3 so3 => ⟨F3, ad3, g3.rel, so3, st.trans (gg.trans g3).st, e, k.go (gg.trans g3)⟩
        | bk =>
          cases e
          exact fun F3 ad3 H3 τ3 g3 so3 => k F3 ad3 H3 τ3 (gg.trans g3) so3.forget
        | rt t =>
          cases e
          exact fun F3 ad3 H3 v g3 rv => k F3 ad3 H3 v (gg.trans g3) rv
    · cases e
  · rw [List.drop_eq_nil_of_le (Nat.le_of_not_lt hlt)] at e
    unfold loopF at e
    split at e
    · rename_i ok
      cases e
      obtain ⟨q1, q2⟩ := hJ F ad S H st r ok i
      exact .inl ⟨q1 (Nat.le_of_not_lt hlt), k F ad H τ (.refl r) so⟩
    · cases e
/-! ### while -/
/-- at most n turns -/
def loopW (c : BF) (body : SF) (cl : List Nat) : Nat → SF
  | 0, _, _ => none
  | n + 1, σ, S => (c σ S).bind fun p => if p.1 = true then (body σ p.2).bind fun o => match o.1 with
      | .nx => loopW c body cl n (forget cl o.2.1) o.2.2
      | .ct => loopW c body cl n (forget cl o.2.1) o.2.2
      | .bk => some (.nx, forget cl o.2.1, o.2.2)
      | .rt t => some (.rt t, o.2.1, o.2.2)
    else some (.nx, σ, p.2)
theorem fs_while {c : Expr} {body : List Stmt} {fc : BF} {fb : SF} {pos : Pos} (n : Nat) (cl : List Nat) (hp : PassesOwn (model X.prog X.w) X.A X.env X.xe) (hc : FB X c fc) (hb : FSs X body fb) : FS X (.While c body [] pos) (loopW fc fb cl n) := by
  refine PS.imp (ps_while hp hc hb) fun D τ H ⟨F, ad, σ, S, o, r, so, e, k⟩ => ?_
  refine ⟨fun m τ H => ∃ F ad σ S, RelS X.K F ad S H ∧ SlotsOk X.K F ad σ τ ∧ loopW fc fb cl m σ S = some o ∧ Fin X.K F ad H D o, ⟨n, F, ad, σ, S, r, so, e, k⟩, ?_⟩
  rintro m τ H ⟨F, ad, σ, S, r, so, e, k⟩
  cases m with
  | zero => unfold loopW at e; cases e
  | succ m =>
    unfold loopW at e
    obtain ⟨⟨b, S1⟩, e1, e⟩ := bind_some e
    refine ⟨F, ad, σ, S, b, S1, r, so, e1, fun F1 ad1 H1 g1 => ?_⟩
    cases b with
    | false =>
      rw [if_neg Bool.false_ne_true]
      rw [if_neg Bool.false_ne_true] at e
      cases e
      exact k F1 ad1 H1 τ g1 (so.step g1.st)
    | true =>
      rw [if_pos rfl]
      rw [if_pos rfl] at e
      obtain ⟨⟨fl, σ3, S3⟩, e3, e⟩ := bind_some e
      simp only at e
      refine ⟨fun τ' H' => ∃ F ad, RelS X.K F ad S3 H' ∧ SlotsOk X.K F ad σ3 τ' ∧ loopW fc fb cl m (forget cl σ3) S3 = some o ∧ Fin X.K F ad H' D o, ?_, ?_⟩
      · rintro τ' H' ⟨F', ad', r', so', e', k'⟩
        exact ⟨m, by omega, F', ad', forget cl σ3, S3, r', so'.forget, e', k'⟩
      · refine ⟨F1, ad1, σ, S1, (fl, σ3, S3), g1.rel, so.step g1.st, e3, ?_⟩
        cases fl with
        | nx => exact fun F3 ad3 H3 τ3 g3 so3 => ⟨F3, ad3, g3.rel, so3, e, k.go (g1.trans g3)⟩
        | ct => exact fun F3 ad3 H3 τ3 g3 so3 => ⟨F3, ad3, g3.rel, so3, e, k.go (g1.trans g3)⟩
        | bk =>
          cases e
          exact fun F3 ad3 H3 τ3 g3 so3 => k F3 ad3 H3 τ3 (g1.trans g3) so3.forget
        | rt t =>
          cases e
          exact fun F3 ad3 H3 v g3 rv => k F3 ad3 H3 v (g1.trans g3) rv
end
end FL
/-! FL: comprehensions, defs. -/
namespace FL
open PySem PySem.Spec PyProof.Rows L2
open Classical in
section
variable {X : Cx}
/-! ### [e for x in xs if t] -/
noncomputable def compL (g : GF) (t : BF) (f : EF) (σ : Sg) (gs : Gs) : List Itm → Cs → Option (List T × Cs)
  | [], S => if gOk gs S then some ([], S) else none
  | it :: r, S => if gOk gs S then (g it σ S).bind fun q => (t q.1 q.2).bind fun b => if b.1 = true then (f q.1 b.2).bind fun u => (compL g t f σ gs r u.2).map fun w => (u.1 :: w.1, w.2)
      else compL g t f σ gs r b.2 else none
noncomputable def cComp (fi : IF) (g : GF) (t : BF) (f : EF) (vs : List Nat) : EF := fun σ S => (fi σ S).bind fun p => (compL g t f (forget vs σ) p.2.1 p.1 p.2.2).bind fun q => if q.1.length ≤ sizeLine then some (.own q.2.length, q.2 ++ [.lst q.1]) else none
def FTs (X : Cx) (ifs : List Expr) (f : BF) : Prop := PTs X ifs (tB X.K f)
def cYes : BF := fun _ S => some (true, S)
theorem PTs.imp {e : List Expr} {t t' : TT} (h : PTs X e t) (w : ∀ τ H Q, t' τ H Q → t τ H Q) : PTs X e t' := ⟨fun pins s σ H Q I q => h.run pins s σ H Q I (w _ _ _ q)⟩
theorem fts_nil : FTs X [] cYes := PTs.imp pts_nil fun τ H Q ⟨F, ad, σ, S, b, S', r, so, e, k⟩ => by
  cases e
  exact k F ad H (.refl r)
theorem fts_one {c : Expr} {f : BF} (h : FB X c f) : FTs X [c] f := pts_one h
theorem wipe_get (τ : L2.St) : ∀ (vs : List Nat) (j : Nat), (wipe τ vs)[j]? = if j ∈ vs then (if j < τ.length then some none else none) else τ[j]?
  | [], j => by simp [wipe]
  | v :: vs, j => by
    unfold wipe
    rw [List.getElem?_set, wipe_length, wipe_get τ vs j]
    by_cases h : v = j
    · subst h; simp
    · rw [if_neg h]
      have h' : ¬ j = v := fun e => h e.symm
      simp [h']
theorem wipe_dif {τ τ' : L2.St} {vs is : List Nat} (d : Dif is (wipe τ vs) τ') (h : ∀ i ∈ is, i ∈ vs) : wipe τ' vs = wipe τ vs := by
  apply List.ext_getElem?
  intro j
  rw [wipe_get, wipe_get]
  have hl : τ'.length = τ.length := by rw [d.1, wipe_length]
  by_cases hj : j ∈ vs
  · rw [if_pos hj, if_pos hj, hl]
  · rw [if_neg hj, if_neg hj, d.2 j (fun z => hj (h j z)), wipe_get, if_neg hj]
theorem slots_wipe {K : Frg} {F : Hp} {ad : List Addr} {τ : L2.St} : ∀ {vs : List Nat} {σ : Sg}, SlotsOk K F ad σ τ → SlotsOk K F ad (forget vs σ) (wipe τ vs) := by
  intro vs σ h
  have key : ∀ (vs : List Nat) (σ : Sg), (forget vs σ).length = σ.length ∧ ∀ j t, (forget vs σ)[j]? = some (some t) → σ[j]? = some (some t) ∧ j ∉ vs := by
    intro vs
    induction vs with
    | nil => intro σ; exact ⟨rfl, fun j t e => ⟨e, by simp⟩⟩
    | cons v vs ih =>
      intro σ
      obtain ⟨i1, i2⟩ := ih (σ.set v none)
      refine ⟨by show (forget vs (σ.set v none)).length = _; rw [i1, List.length_set], fun j t e => ?_⟩
      obtain ⟨e1, e2⟩ := i2 j t e
      rw [List.getElem?_set] at e1
      by_cases hv : v = j
      · subst hv
        rw [if_pos rfl] at e1
        by_cases hl : v < σ.length
        · rw [if_pos hl] at e1; cases e1
        · rw [if_neg hl] at e1; cases e1
      · rw [if_neg hv] at e1
        exact ⟨e1, fun z => (List.mem_cons.mp z).elim (fun z => hv z.symm) e2⟩
  obtain ⟨k1, k2⟩ := key vs σ
  refine ⟨by rw [k1, wipe_length]; exact h.1, fun i t e => ?_⟩
  obtain ⟨e1, e2⟩ := k2 i t e
  obtain ⟨v, h1, h2⟩ := h.2 i t e1
  exact ⟨v, by rw [wipe_get, if_neg e2]; exact h1, h2⟩
/-- the reading of a comprehension -/
theorem lc_ok {fi : IF} {g : GF} {t : BF} {f : EF} {is vs : List Nat} {τ : L2.St} {H : Hp} {Q : VK} (his : ∀ i ∈ is, i ∈ vs) (h : tE X.K (cComp fi g t f vs) τ H Q) : tLc (tI X.K fi) (tG X.K is g) (tB X.K t) (tE X.K f) vs τ H Q := by
  obtain ⟨F, ad, σ, S, o, S', r, so, e, k⟩ := h
  obtain ⟨⟨items, gs, S1⟩, e1, e⟩ := bind_some e
  obtain ⟨⟨us, S2⟩, e2, e⟩ := bind_some e
  simp only at e
  split at e
  case isFalse => cases e
  rename_i hz
  cases e
  refine ⟨F, ad, σ, S, items, gs, S1, r, so, e1, fun F1 ad1 H1 J g1 hJ D hD => ?_⟩
  have F1D : F1 D = none := g1.rel.fresh hD
  have r0 : RelS X.K F1 ad1 S1 (upd H1 D (.lst [])) := ⟨fun b o hb => by rw [upd_ne (ne_of_none hb F1D)]; exact g1.rel.sub b o hb, g1.rel.nd, g1.rel.len, fun p a c i1 i2 => by
    have z := g1.rel.cells p a c i1 i2
    have na : a ≠ D := fun e => by
      obtain ⟨o, ho⟩ := z.there
      rw [e, hD] at ho; cases ho
    cases c with
    | lst ts => obtain ⟨n, ws, hh, q⟩ := z; exact ⟨n, ws, by rw [upd_ne na]; exact hh, q⟩
    | ins c fs => obtain ⟨n, dx, fvs, hh, q⟩ := z; exact ⟨n, dx, fvs, by rw [upd_ne na]; exact hh, q⟩
    | frz d => obtain ⟨q, o, hh⟩ := z; exact ⟨q, o, by rw [upd_ne na]; exact hh⟩⟩
  have st0 : Step F1 ad1 H1 F1 ad1 (upd H1 D (.lst [])) := ⟨fun _ _ h => h, fun _ _ h => .inl h, ⟨[], by simp, fun _ h => by simp at h⟩, fun b o h _ => by rw [upd_ne (ne_of_none h hD)]; exact h, fun b h => by
      by_cases hb : b = D
      · rw [hb]; exact hD
      · rw [upd_ne hb] at h; exact h⟩
  have D1 : D ∉ ad1 := fun z => by
    obtain ⟨o, ho⟩ := g1.rel.there z
    rw [hD] at ho; cases ho
  -- what stands at the beginning of turn i
  refine ⟨fun i m H => ∃ F ad S acc rest, RelS X.K F ad S H ∧ Step F1 ad1 H1 F ad H ∧ F D = none ∧ D ∉ ad ∧ (∃ vs', H D = some (.lst vs') ∧ RepTs X.K F ad vs' acc) ∧
      compL g t f (forget vs σ) gs (items.drop i) S = some (rest, S2) ∧ us = acc ++ rest ∧ m = items.length - i,
    ⟨items.length, F1, ad1, S1, [], us, r0, st0, F1D, D1, ⟨[], upd_same, .nil⟩, e2, rfl, rfl⟩, ?_⟩
  rintro i m H ⟨F, ad, S, acc, rest, r, st, FD, Dad, ⟨ws, hD', ra⟩, e, eu, rfl⟩
  have soW : ∀ {F ad H}, Step F1 ad1 H1 F ad H → SlotsOk X.K F ad (forget vs σ) (wipe τ vs) := fun st => SlotsOk.step st (slots_wipe (so.step g1.st))
  by_cases hlt : i < items.length
  · rw [List.drop_eq_getElem_cons hlt] at e
    unfold compL at e
    split at e
    case isFalse => cases e
    rename_i ok
    obtain ⟨q1, q2⟩ := hJ F ad S H st r ok i
    obtain ⟨go, yl⟩ := q2 items[i] (List.getElem?_eq_getElem hlt)
    obtain ⟨⟨σ2, S3⟩, e3, e⟩ := bind_some e
    obtain ⟨⟨b, S4⟩, e4, e⟩ := bind_some e
    simp only at e
    refine .inr ⟨go, fun H' => ∃ F ad S acc rest, RelS X.K F ad S H' ∧ Step F1 ad1 H1 F ad H' ∧ F D = none ∧ D ∉ ad ∧ (∃ vs', H' D = some (.lst vs') ∧ RepTs X.K F ad vs' acc) ∧
      compL g t f (forget vs σ) gs (items.drop (i + 1)) S = some (rest, S2) ∧ us = acc ++ rest, ?_, ?_⟩
    · rintro H' ⟨F', ad', S', acc', rest', h1, h2, h3, h4, h5, h6, h7⟩
      exact ⟨items.length - (i + 1), by omega, F', ad', S', acc', rest', h1, h2, h3, h4, h5, h6, h7, rfl⟩
    · intro x H' hy
      obtain ⟨F', g', ri⟩ := yl x H' hy
      -- D stays apart through steps
      have apart : ∀ {F ad H S F' ad' H'}, F D = none → D ∉ ad → H D ≠ none → Go X.K F ad H F' ad' H' S → F' D = none ∧ D ∉ ad' ∧ (∀ o, H D = some o → H' D = some o) := fun {F ad H S F' ad' H'} a b c g => by
        refine ⟨?_, ?_, fun o ho => g.st.keep D o ho b⟩
        · cases q : F' D with
          | none => rfl
          | some u =>
            rcases g.st.fnew D u q with z | z | z
            · rw [a] at z; cases z
            · exact absurd z b
            · exact absurd z c
        · obtain ⟨l, el, hl⟩ := g.st.adx
          rw [el]
          intro z
          rcases List.mem_append.mp z with z | z
          · exact b z
          · exact c (hl D z)
      refine ⟨F', ad, forget vs σ, S, items[i], σ2, S3, g'.rel, soW (st.trans g'.st), ri, e3, fun τ2 H2 F2 ad2 g2 so2 df => ⟨wipe_dif df his, ?_⟩⟩
      refine ⟨F2, ad2, σ2, S3, b, S4, g2.rel, so2, e4, fun F3 ad3 H3 g3 => ?_⟩
      have gg := (g'.trans g2).trans g3
      obtain ⟨a1, a2, a3⟩ := apart FD Dad (by rw [hD']; simp) gg
      cases b with
      | false =>
        rw [if_neg Bool.false_ne_true] at e
        refine iteF ?_
        exact ⟨F3, ad3, S4, acc, rest, g3.rel, st.trans gg.st, a1, a2, ⟨ws, a3 _ hD', RepTs.step gg.st ra⟩, e, eu⟩
      | true =>
        rw [if_pos rfl] at e
        refine iteT ?_
        obtain ⟨⟨u, S5⟩, e5, e⟩ := bind_some e
        obtain ⟨⟨ur, S6⟩, e6, e⟩ := Option.map_eq_some_iff.mp e
        cases e
        refine ⟨F3, ad3, σ2, S4, u, S5, g3.rel, so2.step g3.st, e5, fun F4 ad4 H4 v g4 rv => ?_⟩
        obtain ⟨b1, b2, b3⟩ := apart a1 a2 (by rw [a3 _ hD']; simp) g4
        have hD4 := b3 _ (a3 _ hD')
        have ra4 : RepTs X.K F4 ad4 ws acc := RepTs.step (gg.trans g4).st ra
        refine ⟨ws, hD4, ?_, ?_⟩
        · have : acc.length + 1 ≤ us.length := by rw [eu]; simp
          have := Paired.length ra4
          omega
        · have r5 : RelS X.K F4 ad4 S5 (upd H4 D (.lst (ws ++ [v]))) := ⟨fun b o hb => by rw [upd_ne (ne_of_none hb b1)]; exact g4.rel.sub b o hb, g4.rel.nd, g4.rel.len, fun p a c i1 i2 => by
            have z := g4.rel.cells p a c i1 i2
            have na : a ≠ D := fun e => b2 (e ▸ List.mem_of_getElem? i1)
            cases c with
            | lst ts => obtain ⟨n, zs, hh, q⟩ := z; exact ⟨n, zs, by rw [upd_ne na]; exact hh, q⟩
            | ins c fs => obtain ⟨n, dx, fvs, hh, q⟩ := z; exact ⟨n, dx, fvs, by rw [upd_ne na]; exact hh, q⟩
            | frz d => obtain ⟨q, o, hh⟩ := z; exact ⟨q, o, by rw [upd_ne na]; exact hh⟩⟩
          have st0 := (st.trans gg.st).trans g4.st
          have st5 : Step F1 ad1 H1 F4 ad4 (upd H4 D (.lst (ws ++ [v]))) := by
            refine ⟨st0.fsub, st0.fnew, st0.adx, fun b o hb hn => ?_, fun b hb => ?_⟩
            · rw [upd_ne (ne_of_none hb hD)]; exact st0.keep b o hb hn
            · by_cases hbD : b = D
              · rw [hbD]; exact hD
              · rw [upd_ne hbD] at hb; exact st0.alive b hb
          exact ⟨F4, ad4, S5, acc ++ [u], ur, r5, st5, b1, b2, ⟨_, upd_same, Paired.append ra4 (.cons rv .nil)⟩, e6, by rw [eu]; simp⟩
  · rw [List.drop_eq_nil_of_le (Nat.le_of_not_lt hlt)] at e
    unfold compL at e
    split at e
    case isFalse => cases e
    rename_i ok
    cases e
    obtain ⟨q1, q2⟩ := hJ F ad S2 H st r ok i
    refine .inl ⟨q1 (Nat.le_of_not_lt hlt), ?_⟩
    rw [List.append_nil] at eu
    subst eu
    have r9 : RelS X.K F (ad ++ [D]) (S2 ++ [.lst us]) H := r.adopt (c := .lst us) Dad fun l => ⟨FD, ws, hD', Paired.mapP ra fun _ t q => RepT.mono (fun _ _ h => h) t q⟩
    have st9 : Step F1 ad1 H1 F (ad ++ [D]) H := by
      have z := st
      obtain ⟨l, h1, h2⟩ := z.adx
      exact ⟨z.fsub, z.fnew, ⟨l ++ [D], by rw [h1, List.append_assoc], fun a ha => (List.mem_append.mp ha).elim (h2 a) fun q => by rw [List.mem_singleton.mp q]; exact hD⟩, z.keep, z.alive⟩
    exact k F (ad ++ [D]) H _ (g1.trans ⟨st9, r9⟩) ⟨D, by rw [← r.len, List.getElem?_append_right (Nat.le_refl _)]; simp, rfl⟩
theorem fe_lc {elt tg iter : Expr} {ifs : List Expr} {scope : Scope} {own : List (Str × Nat)} {pos : Pos} {fi : IF} {g : GF} {ft : BF} {fe : EF} {is : List Nat} (hc : X.calm = true) (hN : X.N.Nodup) (hi : FI X tg iter fi) (ok : BlkOk X.N X.env.scope scope own)
    (hg : ∀ (s : Shared) (H : Hp) (C : Addr) (cl : List (Str × Addr)) (fp : List Addr), FG (X.blk s H scope (compEnvC scope cl C X.env) fp) tg is g) (ht : ∀ (s : Shared) (H : Hp) (C : Addr) (cl : List (Str × Addr)) (fp : List Addr), FTs (X.blk s H scope (compEnvC scope cl C X.env) fp) ifs ft)
    (he : ∀ (s : Shared) (H : Hp) (C : Addr) (cl : List (Str × Addr)) (fp : List Addr), FE (X.blk s H scope (compEnvC scope cl C X.env) fp) elt fe) (his : ∀ i ∈ is, i ∈ own.map (·.2) := by decide) (hs : ∀ x, foldedSetIterable iter X.env x = pure x := by intro _; rfl) :
    FE X (.ListComp elt [⟨tg, iter, ifs, 0⟩] scope pos) (cComp fi g ft fe (own.map (·.2))) :=
  PE.imp (pe_lc (g := tG X.K is g) (tt := tB X.K ft) (te := tE X.K fe) hc hN hi ok hg ht he hs) fun _ _ _ h => lc_ok his h
theorem fs_setLc (i : Nat) {y : Str} {py : Pos} {elt tg iter : Expr} {ifs : List Expr} {scope : Scope} {own : List (Str × Nat)} {pos spos : Pos} {fi : IF} {g : GF} {ft : BF} {fe : EF} {is : List Nat} (hc : X.calm = true) (hN : X.N.Nodup)
    (hsw : swapsWith (.ListComp elt [⟨tg, iter, ifs, 0⟩] scope pos) (some (.Name y py)) spos.line X.env = pure true) (hi : FI X tg iter fi) (ok : BlkOk X.N X.env.scope scope own)
    (hg : ∀ (s : Shared) (H : Hp) (C : Addr) (cl : List (Str × Addr)) (fp : List Addr), FG (X.blk s H scope (compEnvC scope cl C X.env) fp) tg is g) (ht : ∀ (s : Shared) (H : Hp) (C : Addr) (cl : List (Str × Addr)) (fp : List Addr), FTs (X.blk s H scope (compEnvC scope cl C X.env) fp) ifs ft)
    (he : ∀ (s : Shared) (H : Hp) (C : Addr) (cl : List (Str × Addr)) (fp : List Addr), FE (X.blk s H scope (compEnvC scope cl C X.env) fp) elt fe) (his : ∀ i ∈ is, i ∈ own.map (·.2) := by decide) (hy : X.N[i]? = some y := by rfl) (hyl : X.env.scope.names.lookup y = some .local := by rfl) (hs : ∀ x, foldedSetIterable iter X.env x = pure x := by intro _; rfl) :
    FS X (.Assign [.Name y py] (.ListComp elt [⟨tg, iter, ifs, 0⟩] scope pos) spos) (cSet i (cComp fi g ft fe (own.map (·.2)))) := by
  refine PS.imp (ps_setLc (g := tG X.K is g) (tt := tB X.K ft) (te := tE X.K fe) hc hN hy hyl hsw hi ok hg ht he hs) fun D τ H ⟨F, ad, σ, S, o, r, so, e, k⟩ => ?_
  obtain ⟨⟨t, S1⟩, e1, e⟩ := Option.map_eq_some_iff.mp e
  cases e
  exact lc_ok his ⟨F, ad, σ, S, t, S1, r, so, e1, fun F1 ad1 H1 v g1 rv => k F1 ad1 H1 _ g1 ((so.step g1.st).set rv i)⟩
/-! ### defs -/
def startT (n : Nat) (ts : List T) : Sg := ts.map some ++ List.replicate (n - ts.length) none
def fnM (n : Nat) (g : SF) : MF := fun ts S => (g (startT n ts) S).bind fun o => match o.1 with
  | .nx => some (.d .non, o.2.2)
  | .rt t => some (t, o.2.2)
  | _ => none
theorem start_ok {K : Frg} {F : Hp} {ad : List Addr} {N : List Str} {vs : List V} {ts : List T} (r : RepTs K F ad vs ts) : SlotsOk K F ad (startT N.length ts) (L2.start N vs) := by
  have hl := Paired.length r
  unfold startT L2.start
  refine ⟨by simp [hl], fun i t e => ?_⟩
  by_cases hi : i < ts.length
  · rw [List.getElem?_append_left (by simpa using hi), List.getElem?_map] at e
    obtain ⟨u, hu, e⟩ := Option.map_eq_some_iff.mp e
    cases e
    obtain ⟨v, hv, rv⟩ := Paired.get r hu
    exact ⟨v, by rw [List.getElem?_append_left (by rw [List.length_map, hl]; exact hi), List.getElem?_map, hv]; rfl, rv⟩
  · rw [List.getElem?_append_right (by simpa using hi)] at e
    rw [List.getElem?_replicate] at e
    split at e
    · cases e
    · cases e
end
section
variable {P : Program} {w : World} {K : Frg} {mg : Str → Option Value} {base : Heap} {x qual : Str} {params : Arguments} {body : List Stmt} {scope : Scope} {dvs : List V} {kws : List (Str × V)} {f : Addr} {fd : FuncData}
theorem def_ok {N ps : List Str} {k : Nat} {g : SF} (F : FunD K x qual params body scope dvs kws f fd) (S : FnScope N ps scope)
    (hbody : ∀ (cdv : Value) (A : Around) (outer : List Env) (s : Shared) (H : Hp) (E : XK), Room k (A.deeper (envOfC qual scope s.heap.objs.size f cdv)) → FSs (cxOf CX0 P w K mg base N qual scope f cdv A outer s H E).nox body g) :
    FnOk P w K mg base CX0 (k + 1) f fd ps (spF K ps.length (fnM N.length g)) := by
  refine F.ok S (fun vs H Q E h => ?_) (fun cdv A outer s H vs Q E hr h => ⟨_, PSs.nox (hbody cdv A outer s H E hr), ?_⟩)
  · obtain ⟨F, ad, S, ts, t, S', r, rs, hn, _⟩ := h
    rw [Paired.length rs, hn]
  · obtain ⟨F, ad, S, ts, t, S', r, rs, hn, e, k⟩ := h
    unfold fnM at e
    obtain ⟨⟨fl, σ, S1⟩, e1, e⟩ := bind_some e
    refine ⟨F, ad, startT N.length ts, S, (fl, σ, S1), r, start_ok rs, e1, ?_⟩
    cases fl with
    | nx =>
      cases e
      exact fun F' ad' H' τ' g' so => k F' ad' H' .non g' Rep.non
    | rt t =>
      cases e
      exact fun F' ad' H' v g' rv => k F' ad' H' v g' rv
    | bk => cases e
    | ct => cases e
end
end FL
/-! FL: ranges, slices, truth, calls that give back what they took, xs[i] += e. -/
namespace FL
open PySem PySem.Spec PyProof.Rows L2
section
variable {X : Cx}
/-! ### ranges as values -/
def bRange2 : MF := b2 fun t u S => match asI t, asI u with
  | some i, some j => some (.d (.rng i j), S)
  | _, _ => none
theorem f_range2 : CallF X (.type "range") bRange2 := by
  refine CallR.imp cr_range2 fun vs H Q ⟨F, ad, S, ts, t, S', r, rs, e, k⟩ => ?_
  have e2 := b2_some (show b2 _ ts S = some (t, S') from e)
  clear e
  obtain ⟨_, _, rfl, e⟩ := e2
  split at e
  · rename_i i j hi hj
    cases e
    obtain ⟨x, y, rfl, rx, ry⟩ := pair2 rs
    refine ⟨i, j, by rw [asI_ok hi rx, asI_ok hj ry], fun p hp => ?_⟩
    obtain ⟨r3, s3⟩ := r.newF (o := .rng i j) hp
    exact k _ ad _ _ ⟨s3, r3⟩ (Rep.rng upd_same)
  · cases e
theorem cr_range1 : CallR X (.type "range") (fun vs H Q => ∃ j, vs = [V.int j] ∧ ∀ p, H p = none → Q (.ref p) (upd H p (.rng 0 j))) := by
  intro pins s σ H vs us Q I r h
  obtain ⟨j, rfl, q⟩ := h
  obtain ⟨u1, rfl, rj⟩ := vals1 r
  obtain ⟨t, rfl⟩ := rj
  refine call_range_1 ⟨.ref s.heap.objs.size, upd H s.heap.objs.size (.rng 0 j), I.laid (fun b o e => Heap.get?_push_of_some _ e) (Nat.le_refl _) ?_, rfl, q _ (I.hok.fresh (Nat.le_refl _))⟩
  exact ⟨_, _, _, Heap.get?_push_size _ rfl⟩
def bRange1 : MF := b1 fun t S => (asI t).map fun j => (.d (.rng 0 j), S)
theorem f_range1 : CallF X (.type "range") bRange1 := by
  refine CallR.imp cr_range1 fun vs H Q ⟨F, ad, S, ts, t, S', r, rs, e, k⟩ => ?_
  have e2 := b1_some (show b1 _ ts S = some (t, S') from e)
  clear e
  obtain ⟨_, rfl, e⟩ := e2
  obtain ⟨j, hj, e⟩ := Option.map_eq_some_iff.mp e
  cases e
  obtain ⟨x, rfl, rx⟩ := pair1 rs
  refine ⟨j, by rw [asI_ok hj rx], fun p hp => ?_⟩
  obtain ⟨r3, s3⟩ := r.newF (o := .rng 0 j) hp
  exact k _ ad _ _ ⟨s3, r3⟩ (Rep.rng upd_same)
theorem vals_of : ∀ (ns : List Int) (us : List Value), us.length = ns.length → (∀ (i : Nat) u, us[i]? = some u → ∃ t, u = .int (ns.getD i 0) t) → Vals (ns.map V.int) us
  | [], [], _, _ => .nil
  | [], _ :: _, h, _ => by simp at h
  | _ :: _, [], h, _ => by simp at h
  | n :: ns, u :: us, h, f => .cons (by
      obtain ⟨t, e⟩ := f 0 u rfl
      exact ⟨t, by simpa using e⟩) (vals_of ns us (by simpa using h) fun i w hw => by
      obtain ⟨t, e⟩ := f (i + 1) w (by simpa using hw)
      exact ⟨t, by simpa using e⟩)
theorem rangeL_get (lo hi : Int) (i : Nat) (h : i < (hi - lo).toNat) : (rangeL lo hi).getD i 0 = lo + i := by
  unfold rangeL
  rw [List.getD_eq_getElem?_getD, List.getElem?_map, List.getElem?_range h]
  rfl
theorem cr_listRange (hc : X.calm = true) : CallR X (.type "list") (fun vs H Q => ∃ a lo hi, vs = [V.ref a] ∧ H a = some (.rng lo hi) ∧ inR lo ∧ inR hi ∧ hi - lo ≤ 2 ^ 24 ∧ ∀ p, H p = none → Q (.ref p) (upd H p (.lst ((rangeL lo hi).map V.int)))) := by
  intro pins s σ H vs us Q I r h
  obtain ⟨a, lo, hi, rfl, ha, ⟨h1, h2⟩, ⟨h3, h4⟩, hl, q⟩ := h
  obtain ⟨u1, rfl, ra⟩ := vals1 r
  obtain rfl : u1 = Value.ref a := ra
  obtain ⟨t, u, v, ho⟩ := I.hok a _ ha
  have hn : (hi - lo).toNat ≤ 2 ^ 24 := by omega
  refine call_list_range (n := (hi - lo).toNat) (I.ok.hd hc) (show IsRange s.heap a lo hi 1 t u v from ho) (small_one h1 h2 h3 h4) (by rw [rangeSize_one]; split <;> omega) hn fun h' tk acc' c' kk hS' it => ?_
  have len : (rangeL lo hi).length = (hi - lo).toNat := by unfold rangeL; simp
  refine ⟨.ref s.heap.objs.size, upd H s.heap.objs.size (.lst ((rangeL lo hi).map V.int)), I.laid kk (Nat.le_refl _) ⟨by rw [List.length_map, len]; exact Nat.le_trans hn (by decide), acc'.toList, c', ?_, by simpa using hS'⟩, rfl, q _ (I.hok.fresh (Nat.le_refl _))⟩
  refine vals_of _ _ (by rw [len]; simpa using it.1) fun i w hw => ?_
  have hw' : acc'[i]? = some w := by simpa using hw
  obtain ⟨t, e⟩ := it.2 i w hw'
  have hi' : i < (hi - lo).toNat := by rw [← it.1]; exact (Array.getElem?_eq_some_iff.mp hw').1
  exact ⟨t, by rw [e, rangeL_get lo hi i hi', Int.mul_one]⟩
def bListR : MF := b1 fun t S => match deref t S with
  | .d (.rng lo hi) => if inR lo ∧ inR hi ∧ hi - lo ≤ 2 ^ 24 then some (.own S.length, S ++ [.lst ((rangeL lo hi).map fun i => .d (.int i))]) else none
  | _ => none
theorem f_listR (hc : X.calm = true) : CallF X (.type "list") bListR := by
  refine CallR.imp (cr_listRange hc) fun vs H Q ⟨F, ad, S, ts, t, S', r, rs, e, k⟩ => ?_
  have e2 := b1_some (show b1 _ ts S = some (t, S') from e)
  clear e
  obtain ⟨_, rfl, e⟩ := e2
  split at e
  · rename_i lo hi hd
    split at e
    · rename_i hb
      cases e
      obtain ⟨x, rfl, rx⟩ := pair1 rs
      have rx := deref_ok r rx
      rw [hd] at rx
      cases (show Rep X.K F x (.rng lo hi) from rx) with
      | rng q =>
        refine ⟨_, lo, hi, rfl, r.sub _ _ q, hb.1, hb.2.1, hb.2.2, fun p hp => ?_⟩
        obtain ⟨g2, q2⟩ := new_lst r hp (scr_ts (K := X.K) (F := F) (ad := ad) (rangeL lo hi))
        exact k _ _ _ _ g2 q2
    · cases e
  · cases e
abbrev bListA : MF := bOr bList bListR
theorem f_listA (hc : X.calm = true) : CallF X (.type "list") bListA := f_list.or (f_listR hc)
/-! ### slices of lists, of tuples -/
def partI (f : EF) (σ : Sg) (S : Cs) : Option (Option Int × Cs) := (f σ S).bind fun p => (asI p.1).map fun i => (some i, p.2)
abbrev OFn := Sg → Cs → Option (Option Int × Cs)
def noPart : OFn := fun _ S => some (none, S)
def tO (K : Frg) (f : OFn) : TO := fun τ H Q => ∃ F ad σ S i S', RelS K F ad S H ∧ SlotsOk K F ad σ τ ∧ f σ S = some (i, S') ∧ ∀ F' ad' H', Go K F ad H F' ad' H' S' → Q i H'
def FO (X : Cx) (e : Option Expr) (f : OFn) : Prop := PO X e (tO X.K f)
theorem PO.imp {e : Option Expr} {t t' : TO} (h : PO X e t) (w : ∀ τ H Q, t' τ H Q → t τ H Q) : PO X e t' := ⟨fun pins s σ H Q I q => h.run pins s σ H Q I (w _ _ _ q)⟩
theorem fo_none : FO X none noPart := PO.imp po_none fun τ H Q ⟨F, ad, σ, S, i, S', r, so, e, k⟩ => by
  cases e
  exact k F ad H (.refl r)
theorem fo_some {e : Expr} {f : EF} (h : FE X e f) : FO X (some e) (partI f) := by
  refine PO.imp (po_some h) fun τ H Q ⟨F, ad, σ, S, i, S', r, so, e, k⟩ => ?_
  obtain ⟨⟨t, S1⟩, e1, e⟩ := bind_some e
  obtain ⟨j, hj, e⟩ := Option.map_eq_some_iff.mp e
  cases e
  exact ⟨F, ad, σ, S, t, S1, r, so, e1, fun F1 ad1 H1 v g1 rv => ⟨j, asI_ok hj rv, k F1 ad1 H1 g1⟩⟩
def cutG {α : Type} (xs : List α) (lo hi : Option Int) : List α := (xs.drop (HT.sIx xs.length 0 lo)).take (HT.sIx xs.length xs.length hi - HT.sIx xs.length 0 lo)
theorem Paired.cut {α β : Type} {R : α → β → Prop} {vs : List α} {ds : List β} (r : Paired R vs ds) (lo hi : Option Int) : Paired R (cutG vs lo hi) (cutG ds lo hi) := by
  unfold cutG
  rw [Paired.length r]
  exact Paired.take _ (Paired.drop _ r)
theorem Reps.ofT {K : Frg} {F : Hp} {ad : List Addr} : ∀ {vs : List V} {ds : List D}, RepTs K F ad vs (ds.map .d) → Reps K F vs ds
  | [], [], _ => .nil
  | [], _ :: _, h => by cases h
  | _ :: _, [], h => by cases h
  | v :: vs, d :: ds, h => by
    cases h with
    | cons a b => exact .cons a (Reps.ofT b)
theorem cutG_map {α β : Type} (f : α → β) (xs : List α) (lo hi : Option Int) : cutG (xs.map f) lo hi = (cutG xs lo hi).map f := by
  unfold cutG
  rw [List.length_map, List.map_take, List.map_drop]
def cSl (fe : EF) (lo hi : OFn) : EF := fun σ S => (fe σ S).bind fun p => (lo σ p.2).bind fun a => (hi σ a.2).bind fun b => match seqOf p.1 b.2 with
  | some (false, ts) => some (.own b.2.length, b.2 ++ [.lst (cutG ts a.1 b.1)])
  | some (true, _) => (match asT p.1 b.2 with
    | some ds => if HT.sIx ds.length 0 a.1 = 0 ∧ HT.sIx ds.length ds.length b.1 = ds.length then none else some (.d (.tup (cutG ds a.1 b.1)), b.2)
    | none => none)
  | none => none
theorem SlR.or {r r' : V → Option Int → Option Int → Hp → VK → Prop} (h : SlR X r) (h' : SlR X r') : SlR X (fun x lo hi H Q => r x lo hi H Q ∨ r' x lo hi H Q) := fun pins s σ H x v vl vu lo hi sl Q I rx hs h1 h2 q =>
  q.elim (fun q => h pins s σ H x v vl vu lo hi sl Q I rx hs h1 h2 q) fun q => h' pins s σ H x v vl vu lo hi sl Q I rx hs h1 h2 q
theorem fe_sl {e : Expr} {lo hi : Option Expr} {fe : EF} {fl fh : OFn} {p2 pos : Pos} (he : FE X e fe) (hl : FO X lo fl) (hu : FO X hi fh) : FE X (.Subscript e (.Slice lo hi none p2) pos) (cSl fe fl fh) := by
  refine PE.imp (pe_slice (SlR.or sl_list sl_tup) he hl hu) fun τ H Q ⟨F, ad, σ, S, t, S', r, so, e, k⟩ => ?_
  obtain ⟨⟨tx, S1⟩, e1, e⟩ := bind_some e
  obtain ⟨⟨a, S2⟩, e2, e⟩ := bind_some e
  obtain ⟨⟨b, S3⟩, e3, e⟩ := bind_some e
  simp only at e
  refine ⟨F, ad, σ, S, tx, S1, r, so, e1, fun F1 ad1 H1 v g1 rx => ⟨F1, ad1, σ, S1, a, S2, g1.rel, so.step g1.st, e2, fun F2 ad2 H2 g2 => ⟨F2, ad2, σ, S2, b, S3, g2.rel, so.step (g1.trans g2).st, e3, fun F3 ad3 H3 g3 => ?_⟩⟩⟩
  have rx3 := rx.step (g2.trans g3).st
  split at e
  · rename_i ts hs
    cases e
    obtain ⟨c, vs, rfl, _, _, q2, rr⟩ := seqOf_ok g3.rel rx3 hs
    refine .inl ⟨c, vs, rfl, q2 rfl, fun p hp => ?_⟩
    obtain ⟨g4, q4⟩ := new_lst g3.rel hp (Paired.cut rr a b)
    exact k _ _ _ _ (((g1.trans g2).trans g3).trans g4) q4
  · split at e
    · rename_i ds hd
      split at e
      · cases e
      · rename_i hb
        cases e
        obtain ⟨c, vs, rfl, q, rr⟩ := asT_ok g3.rel rx3 hd
        refine .inr ⟨c, vs, rfl, SqT.sub g3.rel.sub q, by rw [rr.length]; exact hb, fun p hp => ?_⟩
        obtain ⟨r4, s4⟩ := g3.rel.newF (o := .tup (cutV vs a b)) hp
        refine k _ ad3 _ _ (((g1.trans g2).trans g3).trans ⟨s4, r4⟩) (Rep.tup (.of upd_same) ?_)
        have z : RepTs X.K F3 ad3 (cutG vs a b) (cutG (ds.map T.d) a b) := Paired.cut rr.ts a b
        rw [cutG_map] at z
        exact (Reps.ofT z).mono s4.fsub
    · cases e
  · cases e
/-! ### truth -/
def cTr (f : EF) : BF := fun σ S => (f σ S).bind fun p => match deref p.1 p.2 with
  | .d (.bl b) => some (b, p.2)
  | .d .non => some (false, p.2)
  | .d (.int i) => some (i != 0, p.2)
  | .d (.str z) => if z.length ≤ sizeLine then some (z.length != 0, p.2) else none
  | u => (match seqOf u p.2 with
    | some (_, ts) => some (!ts.isEmpty, p.2)
    | none => none)
theorem Paired.isEmpty {α β : Type} {R : α → β → Prop} {vs : List α} {ds : List β} (r : Paired R vs ds) : vs.isEmpty = ds.isEmpty := by
  cases r <;> rfl
/-! ### calls that give back what they took -/
def below (n : Nat) : T → Bool
  | .d _ => true
  | .own p => decide (p < n)
def cellBelow (n : Nat) : Cell → Bool
  | .lst ts => ts.all (below n)
  | .ins _ fs => fs.all fun q => below n q.2
  | .frz _ => true
theorem RepT.cut {K : Frg} {F : Hp} {ad : List Addr} {n : Nat} {v : V} {t : T} (r : RepT K F ad v t) (h : below n t = true) : RepT K F (ad.take n) v t := by
  cases t with
  | d d => exact r
  | own p =>
    obtain ⟨a, hp, rfl⟩ := r
    exact ⟨a, by rw [List.getElem?_take, if_pos (of_decide_eq_true h)]; exact hp, rfl⟩
theorem RepTs.cut {K : Frg} {F : Hp} {ad : List Addr} {n : Nat} : ∀ {vs : List V} {ts : List T}, RepTs K F ad vs ts → ts.all (below n) = true → RepTs K F (ad.take n) vs ts
  | _, _, .nil, _ => .nil
  | _, _, .cons q r, h => by
    rw [List.all_cons, Bool.and_eq_true] at h
    exact .cons (RepT.cut q h.1) (RepTs.cut r h.2)
theorem RepTF.cut {K : Frg} {F : Hp} {ad : List Addr} {n : Nat} : ∀ {vs : List (Str × V)} {ts : List (Str × T)}, RepTF K F ad vs ts → ts.all (fun q => below n q.2) = true → RepTF K F (ad.take n) vs ts
  | _, _, .nil, _ => .nil
  | _, _, .cons q r, h => by
    rw [List.all_cons, Bool.and_eq_true] at h
    exact .cons ⟨q.1, RepT.cut q.2 h.1⟩ (RepTF.cut r h.2)
theorem RelS.cut {K : Frg} {F : Hp} {ad : List Addr} {S : Cs} {H : Hp} (r : RelS K F ad S H) (n : Nat) (h : (S.take n).all (cellBelow n) = true) : RelS K F (ad.take n) (S.take n) H := by
  refine ⟨r.sub, r.nd.sublist (List.take_sublist _ _), by simp [r.len], fun p a c e1 e2 => ?_⟩
  have hb := List.all_eq_true.mp h c (List.mem_of_getElem? e2)
  rw [List.getElem?_take] at e1 e2
  split at e1
  · rename_i hp
    rw [if_pos hp] at e2
    have q := r.cells p a c e1 e2
    cases c with
    | lst ts => obtain ⟨x, vs, hh, q⟩ := q; exact ⟨x, vs, hh, RepTs.cut q hb⟩
    | ins c fs => obtain ⟨x, dx, fvs, hh, q⟩ := q; exact ⟨x, dx, fvs, hh, RepTF.cut q hb⟩
    | frz d => exact q
  · cases e1
theorem Go.cut {K : Frg} {F : Hp} {ad : List Addr} {H F' : Hp} {ad' : List Addr} {H' : Hp} {S S' : Cs} (r : RelS K F ad S H) (g : Go K F ad H F' ad' H' S') (h : (S'.take S.length).all (cellBelow S.length) = true) : Go K F ad H F' ad H' (S'.take S.length) ∧ ad'.take S.length = ad := by
  obtain ⟨l, el, _⟩ := g.st.adx
  have e : ad'.take S.length = ad := by rw [el, ← r.len, List.take_left]
  have q := g.rel.cut S.length h
  rw [e] at q
  exact ⟨⟨⟨g.st.fsub, g.st.fnew, ⟨[], by simp, fun _ h => by simp at h⟩, g.st.keep, g.st.alive⟩, q⟩, e⟩
/-- the answer is data (or a local object that was there); new local objects are forgotten -/
def cCallT (m : MF) (dts : List T) (n : Nat) (fs : AF) : EF := fun σ S => (fs σ S).bind fun p => if (p.1 ++ dts).length = n then
  (m (p.1 ++ dts) p.2).bind fun u => if below p.2.length u.1 = true then (if (u.2.take p.2.length).all (cellBelow p.2.length) = true then some (u.1, u.2.take p.2.length) else none)
    else (toD dep u.1 u.2).bind fun w => if (w.2.take p.2.length).all (cellBelow p.2.length) = true then some (.d w.1, w.2.take p.2.length) else none
  else none
/-- the answer may be a new list; other new local objects are forgotten -/
def cCallU (m : MF) (dts : List T) (n : Nat) (fs : AF) : EF := fun σ S => (fs σ S).bind fun p => if (p.1 ++ dts).length = n then
  (m (p.1 ++ dts) p.2).bind fun u => match u.1 with
    | .d d => if (u.2.take p.2.length).all (cellBelow p.2.length) = true then some (.d d, u.2.take p.2.length) else none
    | .own j => if j < p.2.length then none else (match u.2[j]? with
      | some (.lst ts) => (toDs ts u.2).bind fun w => if isFrz w.2[j]? = true then none else
          if (w.2.take p.2.length).all (cellBelow p.2.length) = true then some (.own p.2.length, w.2.take p.2.length ++ [.lst (w.1.map .d)]) else none
      | _ => none)
  else none
section
variable {n : Nat} {m : MF} {dvs : List V} {dts : List T} {E : XK} {fs : AF}
theorem callT_rd (hdv : ∀ F ad, RepTs X.K F ad dvs dts) {τ : L2.St} {H : Hp} {Q : VK} (h : tE X.K (cCallT m dts n fs) τ H Q) : tCall (spF X.K n m) dvs E (tA X.K fs) τ H Q := by
  obtain ⟨F, ad, σ, S, t, S', r, so, e, k⟩ := h
  obtain ⟨⟨ts, S1⟩, e1, e⟩ := bind_some e
  simp only at e
  split at e
  case isFalse => cases e
  rename_i hn
  obtain ⟨⟨u, S2⟩, e2, e⟩ := bind_some e
  refine ⟨F, ad, σ, S, ts, S1, r, so, e1, fun F1 ad1 H1 vs g1 rs => ⟨F1, ad1, S1, ts ++ dts, u, S2, g1.rel, Paired.append rs (hdv _ _), hn, e2, fun F' ad' H' v g rv => ?_⟩⟩
  simp only at e
  split at e
  · rename_i hb
    split at e
    case isFalse => cases e
    rename_i hc
    cases e
    obtain ⟨g2, ea⟩ := Go.cut g1.rel g hc
    have rv2 := RepT.cut rv hb
    rw [ea] at rv2
    exact k F' ad1 H' v (g1.trans g2) rv2
  · obtain ⟨⟨w, S3⟩, e3, e⟩ := bind_some e
    simp only at e
    split at e
    case isFalse => cases e
    rename_i hc
    cases e
    obtain ⟨F3, g3, p3⟩ := toD_ok dep u S2 w S3 F' ad' H' v g.rel rv e3
    obtain ⟨g4, ea⟩ := Go.cut g1.rel (g.trans g3.go) hc
    exact k F3 ad1 H' v (g1.trans g4) p3
theorem callU_rd (hdv : ∀ F ad, RepTs X.K F ad dvs dts) {τ : L2.St} {H : Hp} {Q : VK} (h : tE X.K (cCallU m dts n fs) τ H Q) : tCall (spF X.K n m) dvs E (tA X.K fs) τ H Q := by
  obtain ⟨F, ad, σ, S, t, S', r, so, e, k⟩ := h
  obtain ⟨⟨ts, S1⟩, e1, e⟩ := bind_some e
  simp only at e
  split at e
  case isFalse => cases e
  rename_i hn
  obtain ⟨⟨u, S2⟩, e2, e⟩ := bind_some e
  refine ⟨F, ad, σ, S, ts, S1, r, so, e1, fun F1 ad1 H1 vs g1 rs => ⟨F1, ad1, S1, ts ++ dts, u, S2, g1.rel, Paired.append rs (hdv _ _), hn, e2, fun F' ad' H' v g rv => ?_⟩⟩
  simp only at e
  cases u with
  | d d =>
    simp only at e
    split at e
    case isFalse => cases e
    rename_i hc
    cases e
    obtain ⟨g2, ea⟩ := Go.cut g1.rel g hc
    exact k F' ad1 H' v (g1.trans g2) rv
  | own j =>
    simp only at e
    split at e
    · cases e
    rename_i hj
    split at e
    case h_2 => cases e
    rename_i us hu
    obtain ⟨⟨ws, S3⟩, e3, e⟩ := bind_some e
    simp only at e
    split at e
    · cases e
    rename_i hz
    split at e
    case isFalse => cases e
    rename_i hc
    cases e
    obtain ⟨a, hp, rfl⟩ := rv
    obtain ⟨_, zs, hH, rz⟩ := g.rel.cells j a _ hp hu
    obtain ⟨F3, g3, p3⟩ := toDs_ok g.rel rz e3
    obtain ⟨nF, c1, hc1⟩ := g3.rel.notF hp hz
    obtain ⟨g4, ea⟩ := Go.cut g1.rel (g.trans g3.go) hc
    obtain ⟨l, el, hl⟩ := g.st.adx
    have fresh : H1 a = none := by
      rw [el, List.getElem?_append_right (by rw [g1.rel.len]; exact Nat.le_of_not_lt hj)] at hp
      exact hl a (List.mem_of_getElem? hp)
    have na : a ∉ ad1 := fun z => by
      obtain ⟨o, ho⟩ := g1.rel.there z
      rw [fresh] at ho; cases ho
    have rel := g4.rel.adopt (c := .lst (ws.map .d)) na fun l => ⟨nF, zs, hH, p3.ts⟩
    have st : Step F1 ad1 H1 F3 (ad1 ++ [a]) H' := ⟨g4.st.fsub, g4.st.fnew, ⟨[a], rfl, fun b hb => by rw [List.mem_singleton.mp hb]; exact fresh⟩, g4.st.keep, g4.st.alive⟩
    have ll : ((S3.take S1.length)).length = S1.length := by rw [← g4.rel.len, g1.rel.len]
    exact k F3 (ad1 ++ [a]) H' _ (g1.trans ⟨st, rel⟩) ⟨a, by rw [List.getElem?_append_right (by rw [g1.rel.len]; exact Nat.le_refl _), g1.rel.len]; simp, rfl⟩
end
/-! ### new local objects that nothing holds are forgotten -/
def trimT (n : Nat) (o : Option (T × Cs)) : Option (T × Cs) := o.bind fun p => if below n p.1 = true then (if (p.2.take n).all (cellBelow n) = true then some (p.1, p.2.take n) else none) else some p
def trimB (n : Nat) (o : Option (Bool × Cs)) : Option (Bool × Cs) := o.bind fun p => if (p.2.take n).all (cellBelow n) = true then some (p.1, p.2.take n) else none
def cTrim (f : EF) : EF := fun σ S => trimT S.length (f σ S)
def cTrimB (f : BF) : BF := fun σ S => trimB S.length (f σ S)
theorem fe_trim {e : Expr} {f : EF} (h : FE X e f) : FE X e (cTrim f) := by
  refine PE.imp h fun τ H Q ⟨F, ad, σ, S, t, S', r, so, e, k⟩ => ?_
  obtain ⟨⟨u, S1⟩, e1, e⟩ := bind_some e
  refine ⟨F, ad, σ, S, u, S1, r, so, e1, fun F1 ad1 H1 v g1 rv => ?_⟩
  simp only at e
  split at e
  · rename_i hb
    split at e
    case isFalse => cases e
    rename_i hc
    cases e
    obtain ⟨g2, ea⟩ := Go.cut r g1 hc
    have rv2 := RepT.cut rv hb
    rw [ea] at rv2
    exact k F1 ad H1 v g2 rv2
  · cases e
    exact k F1 ad1 H1 v g1 rv
theorem fb_trim {e : Expr} {f : BF} (h : FB X e f) : FB X e (cTrimB f) := by
  refine PT.imp h fun τ H Q ⟨F, ad, σ, S, t, S', r, so, e, k⟩ => ?_
  obtain ⟨⟨u, S1⟩, e1, e⟩ := bind_some e
  refine ⟨F, ad, σ, S, u, S1, r, so, e1, fun F1 ad1 H1 g1 => ?_⟩
  simp only at e
  split at e
  case isFalse => cases e
  rename_i hc
  cases e
  obtain ⟨g2, ea⟩ := Go.cut r g1 hc
  exact k F1 ad H1 g2
end
end FL
/-! FL: a def of the text and its function; the law's end. -/
namespace FL
open PySem PySem.Spec PyProof.Rows L2
/-- the def that the module's name x stands for does what m does -/
structure OkD (P : Program) (w : World) (K : Frg) (mg : Str → Option Value) (k : Nat) (x : Str) (ps : List Str) (m : MF) : Prop where
  ex : ∃ fd, (∀ base : Heap, FnOk P w K mg base CX0 k (He.ga K x) fd ps (spF K ps.length m)) ∧ Binds K fd ps [] ∧ ∀ (s : Shared) (us : List Value), us.length = ps.length → BindsTo s fd ⟨us, []⟩ (ps.zip us)
  kp : PySem.W.keepIn K (.ref (He.ga K x)) = true
  g : mg x = some (.ref (He.ga K x))
section
variable {P : Program} {w : World} {K : Frg} {mg : Str → Option Value}
theorem mkD {x : Str} {params : Arguments} {body : List Stmt} {scope : Scope} {N ps : List Str} {k : Nat} {g : SF} (F : ∃ fd, FunD K x x params body scope [] [] (He.ga K x) fd) (hg : mg x = some (.ref (He.ga K x))) (S : FnScope N ps scope)
    (hb : ∀ (kV doc pm : Value) (an : Option Addr) (cdv ct : Value) (us : List Value), us.length = ps.length → bindArgs (PySem.W.fnOf x x params body scope .none kV doc pm an cdv ct) ⟨us, []⟩ = pure (ps.zip us))
    (hbody : ∀ (base : Heap) (cdv : Value) (A : Around) (outer : List Env) (s : Shared) (H : Hp) (E : XK), Room k (A.deeper (envOfC x scope s.heap.objs.size (He.ga K x) cdv)) → FSs (cxOf CX0 P w K mg base N x scope (He.ga K x) cdv A outer s H E).nox body g) :
    OkD P w K mg (k + 1) x ps (fnM N.length g) := by
  obtain ⟨fd, F⟩ := F
  exact ⟨⟨fd, fun base => def_ok F S (hbody base), F.bindsN hb, fun s us hl => FunD.bindsA F hb s us hl⟩, F.kp, hg⟩
theorem OkD.mono {j k : Nat} {x : Str} {ps : List Str} {m : MF} (O : OkD P w K mg j x ps m) (h : j ≤ k) : OkD P w K mg k x ps m := by
  obtain ⟨fd, G, b⟩ := O.ex
  exact ⟨⟨fd, fun base => (G base).mono h, b⟩, O.kp, O.g⟩
end
section
variable {X : Cx} {k : Nat} {x : Str} {ps : List Str} {m : MF} {p pos : Pos} {e : Expr} {es : List Expr} {fs : AF}
theorem fe_cD {c : EF} (hc : ∀ τ H Q, tE X.K c τ H Q → tCall (spF X.K ps.length m) [] E0 (tA X.K fs) τ H Q) (O : OkD X.prog X.w X.K X.mg k x ps m) (hr : Room k X.A) (ha : FA X (e :: es) fs) (hg : Gl X x) (hdb : (x == ("__debug__" : Str)) = false)
    (hs : starEach (e :: es) X.env = (false, eval e X.env) :: starEach es X.env) (hpl : (backTo pos (starEach es X.env)).any (·.1) = false) : FE X (.Call (.Name x p) (e :: es) [] pos) c := by
  obtain ⟨fd, G, b, _⟩ := O.ex
  exact fe_call hc (G _) hr hg O.g O.kp b .nil pass0 ha hdb hs hpl
theorem fe_cP {n : Nat} (O : OkD X.prog X.w X.K X.mg k x ps m) (hr : Room k X.A) (ha : FA X (e :: es) fs) (hn : ps.length = n := by rfl) (hg : Gl X x := by rfl) (hdb : (x == ("__debug__" : Str)) = false := by decide)
    (hs : starEach (e :: es) X.env = (false, eval e X.env) :: starEach es X.env := by rfl) (hpl : (backTo pos (starEach es X.env)).any (·.1) = false := by rfl) : FE X (.Call (.Name x p) (e :: es) [] pos) (cCallP m [] n fs) := by
  subst hn
  exact fe_cD (fun _ _ _ h => callP_rd (fun _ _ => .nil) h) O hr ha hg hdb hs hpl
theorem fe_cN {n : Nat} (O : OkD X.prog X.w X.K X.mg k x ps m) (hr : Room k X.A) (ha : FA X (e :: es) fs) (hn : ps.length = n := by rfl) (hg : Gl X x := by rfl) (hdb : (x == ("__debug__" : Str)) = false := by decide)
    (hs : starEach (e :: es) X.env = (false, eval e X.env) :: starEach es X.env := by rfl) (hpl : (backTo pos (starEach es X.env)).any (·.1) = false := by rfl) : FE X (.Call (.Name x p) (e :: es) [] pos) (cCallN m [] n fs) := by
  subst hn
  exact fe_cD (fun _ _ _ h => callN_rd (fun _ _ => .nil) h) O hr ha hg hdb hs hpl
theorem fe_cT {n : Nat} (O : OkD X.prog X.w X.K X.mg k x ps m) (hr : Room k X.A) (ha : FA X (e :: es) fs) (hn : ps.length = n := by rfl) (hg : Gl X x := by rfl) (hdb : (x == ("__debug__" : Str)) = false := by decide)
    (hs : starEach (e :: es) X.env = (false, eval e X.env) :: starEach es X.env := by rfl) (hpl : (backTo pos (starEach es X.env)).any (·.1) = false := by rfl) : FE X (.Call (.Name x p) (e :: es) [] pos) (cCallT m [] n fs) := by
  subst hn
  exact fe_cD (fun _ _ _ h => callT_rd (fun _ _ => .nil) h) O hr ha hg hdb hs hpl
theorem fe_cU {n : Nat} (O : OkD X.prog X.w X.K X.mg k x ps m) (hr : Room k X.A) (ha : FA X (e :: es) fs) (hn : ps.length = n := by rfl) (hg : Gl X x := by rfl) (hdb : (x == ("__debug__" : Str)) = false := by decide)
    (hs : starEach (e :: es) X.env = (false, eval e X.env) :: starEach es X.env := by rfl) (hpl : (backTo pos (starEach es X.env)).any (·.1) = false := by rfl) : FE X (.Call (.Name x p) (e :: es) [] pos) (cCallU m [] n fs) := by
  subst hn
  exact fe_cD (fun _ _ _ h => callU_rd (fun _ _ => .nil) h) O hr ha hg hdb hs hpl
theorem fe_cS {n : Nat} (O : OkD X.prog X.w X.K X.mg k x ps m) (hr : Room k X.A) (ha : FA X (e :: es) fs) (hn : ps.length = n := by rfl) (hg : Gl X x := by rfl) (hdb : (x == ("__debug__" : Str)) = false := by decide)
    (hs : starEach (e :: es) X.env = (false, eval e X.env) :: starEach es X.env := by rfl) (hpl : (backTo pos (starEach es X.env)).any (·.1) = false := by rfl) : FE X (.Call (.Name x p) (e :: es) [] pos) (cCallS m [] n fs) := by
  subst hn
  exact fe_cD (fun _ _ _ h => callS_rd (fun _ _ => .nil) h) O hr ha hg hdb hs hpl
end
theorem sc_mk {N ps : List Str} {sc : Scope} (h1 : sc.kind = .function) (h2 : sc.isCoroutine = false) (h3 : sc.isGenerator = false) (h4 : N.Nodup) (h5 : N.take ps.length = ps) (h6 : ∀ x ∈ ps, sc.names.lookup x = some .local ∨ sc.names.lookup x = some .cell) (h7 : ∀ y ∈ sc.names, y.2 ≠ .free) : FnScope N ps sc := ⟨h1, h2, h3, h4, h5, h6, h7⟩
theorem law_sp {K : Frg} {m : MF} {n : Nat} (hm : ∀ ns : List Int, ns.length ≤ n → ∃ S', m [.d (.scr ns)] [] = some (.d (.bl true), S')) (H : Hp) (a : Addr) (ns : List Int) (hl : ns.length ≤ n) (hS : SqL K H a (ns.map V.int)) :
    spF K 1 m [.ref a] H (fun v _ => v = .bl true) fun _ _ _ => False := by
  obtain ⟨S', e⟩ := hm ns hl
  exact ⟨H, [], [], [.d (.scr ns)], .d (.bl true), S', ⟨fun _ _ h => h, List.nodup_nil, rfl, fun p a c e _ => by simp at e⟩, .cons (Rep.scr hS) .nil, rfl, e, fun F' ad' H' v g rv => rv.bl⟩
end FL
/-! FL: how the functions are reckoned (by simp, from the inside), the draws. -/
namespace FL
open PySem PySem.Spec PyProof.Rows L2
abbrev ti (i : Int) : T := .d (.int i)
abbrev tb (b : Bool) : T := .d (.bl b)
/-! ### one step at a time: each is handed the value of its first part -/
def slotK (o : Option (Option T)) (S : Cs) : Option (T × Cs) := match o with
  | some (some t) => some (t, S)
  | _ => none
def binK (o : Option (T × Cs)) (g : OF) (fb : EF) (σ : Sg) : Option (T × Cs) := o.bind fun p => (fb σ p.2).bind fun q => g p.1 q.1 q.2
def binK2 (x : T) (o : Option (T × Cs)) (g : OF) : Option (T × Cs) := o.bind fun q => g x q.1 q.2
def setK (i : Nat) (o : Option (T × Cs)) (σ : Sg) : Option (Fl × Sg × Cs) := o.map fun p => (.nx, σ.set i (some p.1), p.2)
def retK (o : Option (T × Cs)) (σ : Sg) : Option (Fl × Sg × Cs) := o.map fun p => (.rt p.1, σ, p.2)
def dropK (o : Option (T × Cs)) (σ : Sg) : Option (Fl × Sg × Cs) := o.map fun p => (.nx, σ, p.2)
def seqK (o : Option (Fl × Sg × Cs)) (g : SF) : Option (Fl × Sg × Cs) := o.bind fun o => match o.1 with
  | .nx => g o.2.1 o.2.2
  | _ => some o
def ifK (o : Option (Bool × Cs)) (f g : SF) (σ : Sg) : Option (Fl × Sg × Cs) := o.bind fun p => if p.1 = true then f σ p.2 else g σ p.2
def ifEK (o : Option (Bool × Cs)) (f g : EF) (σ : Sg) : Option (T × Cs) := o.bind fun p => if p.1 = true then f σ p.2 else g σ p.2
def bK (o : Option (T × Cs)) : Option (Bool × Cs) := o.bind fun p => match p.1 with
  | .d (.bl b) => some (b, p.2)
  | _ => none
def andK (o : Option (Bool × Cs)) (g : BF) (σ : Sg) : Option (Bool × Cs) := o.bind fun p => if p.1 = true then g σ p.2 else some (false, p.2)
def orK (o : Option (Bool × Cs)) (g : BF) (σ : Sg) : Option (Bool × Cs) := o.bind fun p => if p.1 = true then some (true, p.2) else g σ p.2
def andVK (o : Option (Bool × Cs)) (g : EF) (σ : Sg) : Option (T × Cs) := o.bind fun p => if p.1 = true then g σ p.2 else some (.d (.bl false), p.2)
def orVK (o : Option (Bool × Cs)) (g : EF) (σ : Sg) : Option (T × Cs) := o.bind fun p => if p.1 = true then some (.d (.bl true), p.2) else g σ p.2
def notK (o : Option (Bool × Cs)) : Option (Bool × Cs) := o.map fun p => (!p.1, p.2)
def bvK (o : Option (Bool × Cs)) : Option (T × Cs) := o.map fun p => (.d (.bl p.1), p.2)
def consK (o : Option (T × Cs)) (g : AF) (σ : Sg) : Option (List T × Cs) := o.bind fun p => (g σ p.2).map fun q => (p.1 :: q.1, q.2)
def consK2 (t : T) (o : Option (List T × Cs)) : Option (List T × Cs) := o.map fun q => (t :: q.1, q.2)
def tupK (o : Option (List T × Cs)) : Option (T × Cs) := o.bind fun p => if p.1.length ≤ sizeLine then (toDs p.1 p.2).map fun q => (.d (.tup q.1), q.2) else none
def lstK (o : Option (List T × Cs)) : Option (T × Cs) := o.bind fun p => if p.1.length ≤ sizeLine then some (.own p.2.length, p.2 ++ [.lst p.1]) else none
def cbK (g : MF) (o : Option (List T × Cs)) : Option (T × Cs) := o.bind fun p => g p.1 p.2
def mtK (o : Option (T × Cs)) (g : NF) (fs : AF) (σ : Sg) : Option (T × Cs) := o.bind fun p => if isLst p.1 p.2 = true then (fs σ p.2).bind fun q => g p.1 q.1 q.2 else none
def mtK2 (g : NF) (x : T) (o : Option (List T × Cs)) : Option (T × Cs) := o.bind fun q => g x q.1 q.2
def unK (g : T → Cs → Option (T × Cs)) (o : Option (T × Cs)) : Option (T × Cs) := o.bind fun p => g p.1 p.2
def chK (o : Option (T × Cs)) (g g' : OF) (fb fc : EF) (σ : Sg) : Option (T × Cs) := o.bind fun p => (fb σ p.2).bind fun q => (g p.1 q.1 q.2).bind fun z => match z.1 with
  | .d (.bl true) => (fc σ z.2).bind fun u => g' q.1 u.1 u.2
  | .d (.bl false) => some (.d (.bl false), z.2)
  | _ => none
def chK2 (x : T) (o : Option (T × Cs)) (g g' : OF) (fc : EF) (σ : Sg) : Option (T × Cs) := o.bind fun q => (g x q.1 q.2).bind fun z => match z.1 with
  | .d (.bl true) => (fc σ z.2).bind fun u => g' q.1 u.1 u.2
  | .d (.bl false) => some (.d (.bl false), z.2)
  | _ => none
def chK3 (y : T) (o : Option (T × Cs)) (g' : OF) (fc : EF) (σ : Sg) : Option (T × Cs) := o.bind fun z => match z.1 with
  | .d (.bl true) => (fc σ z.2).bind fun u => g' y u.1 u.2
  | .d (.bl false) => some (.d (.bl false), z.2)
  | _ => none
def subK (o : Option (T × Cs)) (fo fi : EF) (σ : Sg) : Option (Fl × Sg × Cs) := o.bind fun p => (fo σ p.2).bind fun q => (fi σ q.2).bind fun u => match ownOf q.1 u.2, asI u.1 with
  | some (k, ts), some i => (ixN ts.length i).map fun j => (.nx, σ, u.2.set k (.lst (ts.set j p.1)))
  | _, _ => none
def subK2 (v : T) (o : Option (T × Cs)) (fi : EF) (σ : Sg) : Option (Fl × Sg × Cs) := o.bind fun q => (fi σ q.2).bind fun u => match ownOf q.1 u.2, asI u.1 with
  | some (k, ts), some i => (ixN ts.length i).map fun j => (.nx, σ, u.2.set k (.lst (ts.set j v)))
  | _, _ => none
def subK3 (v x : T) (o : Option (T × Cs)) (σ : Sg) : Option (Fl × Sg × Cs) := o.bind fun u => match ownOf x u.2, asI u.1 with
  | some (k, ts), some i => (ixN ts.length i).map fun j => (.nx, σ, u.2.set k (.lst (ts.set j v)))
  | _, _ => none
def augK (i : Nat) (o : Option (T × Cs)) (g : OF) (f : EF) (σ : Sg) : Option (Fl × Sg × Cs) := o.bind fun p => (f σ p.2).bind fun q => (g p.1 q.1 q.2).map fun u => (.nx, σ.set i (some u.1), u.2)
def augK2 (i : Nat) (x : T) (o : Option (T × Cs)) (g : OF) (σ : Sg) : Option (Fl × Sg × Cs) := o.bind fun q => (g x q.1 q.2).map fun u => (.nx, σ.set i (some u.1), u.2)
def asgK (g : GF) (o : Option (T × Cs)) (σ : Sg) : Option (Fl × Sg × Cs) := o.bind fun p => (g (.one p.1) σ p.2).map fun q => (.nx, q.1, q.2)
noncomputable def forK (o : Option (List Itm × Gs × Cs)) (g : GF) (body : SF) (cl : List Nat) (σ : Sg) : Option (Fl × Sg × Cs) := o.bind fun p => loopF g body cl p.2.1 p.1 (forget cl σ) p.2.2
noncomputable def compK (o : Option (List Itm × Gs × Cs)) (g : GF) (t : BF) (f : EF) (vs : List Nat) (σ : Sg) : Option (T × Cs) := o.bind fun p => (compL g t f (forget vs σ) p.2.1 p.1 p.2.2).bind fun q => if q.1.length ≤ sizeLine then some (.own q.2.length, q.2 ++ [.lst q.1]) else none
def compK2 (o : Option (List T × Cs)) : Option (T × Cs) := o.bind fun q => if q.1.length ≤ sizeLine then some (.own q.2.length, q.2 ++ [.lst q.1]) else none
def iEK (o : Option (T × Cs)) : Option (List Itm × Gs × Cs) := o.bind fun p => (seqG p.1 p.2).map fun q => (q.2.1.map .one, q.2.2, p.2)
def fnK (o : Option (Fl × Sg × Cs)) : Option (T × Cs) := o.bind fun o => match o.1 with
  | .nx => some (.d .non, o.2.2)
  | .rt t => some (t, o.2.2)
  | _ => none
def callK (c : MF → List T → Cs → Option (T × Cs)) (m : MF) (o : Option (List T × Cs)) : Option (T × Cs) := o.bind fun p => c m p.1 p.2
section
variable {f g : SF} {fa fb fc : EF} {σ : Sg} {S : Cs} {x y t : T} {c c' : BF} {as' : AF} {o g' g2 : OF} {ts : List T} {b : Bool}
@[simp] theorem cV_ap {i : Nat} : cV i σ S = slotK σ[i]? S := rfl
@[simp] theorem slotK_s : slotK (some (some t)) S = some (t, S) := rfl
@[simp] theorem cK_ap {d : D} : cK d σ S = some (.d d, S) := rfl
@[simp] theorem cBin_ap : cBin o fa fb σ S = binK (fa σ S) o fb σ := rfl
@[simp] theorem binK_s : binK (some (x, S)) o fb σ = binK2 x (fb σ S) o := rfl
@[simp] theorem binK2_s : binK2 x (some (y, S)) o = o x y S := rfl
@[simp] theorem cSet_ap {i : Nat} : cSet i fa σ S = setK i (fa σ S) σ := rfl
@[simp] theorem setK_s {i : Nat} : setK i (some (x, S)) σ = some (.nx, σ.set i (some x), S) := rfl
@[simp] theorem cRet_ap : cRet fa σ S = retK (fa σ S) σ := rfl
@[simp] theorem retK_s : retK (some (x, S)) σ = some (.rt x, σ, S) := rfl
@[simp] theorem cRetN_ap : cRetN σ S = some (.rt (.d .non), σ, S) := rfl
@[simp] theorem cNx_ap : cNx σ S = some (.nx, σ, S) := rfl
@[simp] theorem cBk_ap : cBk σ S = some (.bk, σ, S) := rfl
@[simp] theorem cCt_ap : cCt σ S = some (.ct, σ, S) := rfl
@[simp] theorem cDrop_ap : cDrop fa σ S = dropK (fa σ S) σ := rfl
@[simp] theorem dropK_s : dropK (some (x, S)) σ = some (.nx, σ, S) := rfl
@[simp] theorem cSeq_ap : cSeq f g σ S = seqK (f σ S) g := rfl
@[simp] theorem seqK_nx : seqK (some (.nx, σ, S)) g = g σ S := rfl
@[simp] theorem seqK_rt : seqK (some (.rt t, σ, S)) g = some (.rt t, σ, S) := rfl
@[simp] theorem seqK_bk : seqK (some (.bk, σ, S)) g = some (.bk, σ, S) := rfl
@[simp] theorem seqK_ct : seqK (some (.ct, σ, S)) g = some (.ct, σ, S) := rfl
@[simp] theorem cIfS_ap : cIfS c f g σ S = ifK (c σ S) f g σ := rfl
@[simp] theorem ifK_t : ifK (some (true, S)) f g σ = f σ S := rfl
@[simp] theorem ifK_f : ifK (some (false, S)) f g σ = g σ S := rfl
@[simp] theorem cIf_ap : cIf c fa fb σ S = ifEK (c σ S) fa fb σ := rfl
@[simp] theorem ifEK_t : ifEK (some (true, S)) fa fb σ = fa σ S := rfl
@[simp] theorem ifEK_f : ifEK (some (false, S)) fa fb σ = fb σ S := rfl
@[simp] theorem cB_ap : cB fa σ S = bK (fa σ S) := rfl
@[simp] theorem bK_s : bK (some (.d (.bl b), S)) = some (b, S) := rfl
@[simp] theorem cAnd_ap : cAnd c c' σ S = andK (c σ S) c' σ := rfl
@[simp] theorem andK_t : andK (some (true, S)) c σ = c σ S := rfl
@[simp] theorem andK_f : andK (some (false, S)) c σ = some (false, S) := rfl
@[simp] theorem cOr_ap : cOr c c' σ S = orK (c σ S) c' σ := rfl
@[simp] theorem orK_t : orK (some (true, S)) c σ = some (true, S) := rfl
@[simp] theorem orK_f : orK (some (false, S)) c σ = c σ S := rfl
@[simp] theorem cNot_ap : cNot c σ S = notK (c σ S) := rfl
@[simp] theorem notK_s : notK (some (b, S)) = some (!b, S) := rfl
@[simp] theorem cBV_ap : cBV c σ S = bvK (c σ S) := rfl
@[simp] theorem bvK_s : bvK (some (b, S)) = some (.d (.bl b), S) := rfl
@[simp] theorem cAndV_ap : cAndV fa fb σ S = andVK (cB fa σ S) fb σ := rfl
@[simp] theorem andVK_t : andVK (some (true, S)) fb σ = fb σ S := rfl
@[simp] theorem andVK_f : andVK (some (false, S)) fb σ = some (.d (.bl false), S) := rfl
@[simp] theorem cOrV_ap : cOrV fa fb σ S = orVK (cB fa σ S) fb σ := rfl
@[simp] theorem orVK_t : orVK (some (true, S)) fb σ = some (.d (.bl true), S) := rfl
@[simp] theorem orVK_f : orVK (some (false, S)) fb σ = fb σ S := rfl
@[simp] theorem aNil_ap : aNil σ S = some ([], S) := rfl
@[simp] theorem aCons_ap : aCons fa as' σ S = consK (fa σ S) as' σ := rfl
@[simp] theorem consK_s : consK (some (x, S)) as' σ = consK2 x (as' σ S) := rfl
@[simp] theorem consK2_s : consK2 x (some (ts, S)) = some (x :: ts, S) := rfl
@[simp] theorem cTup_ap : cTup as' σ S = tupK (as' σ S) := rfl
@[simp] theorem cLst_ap : cLst as' σ S = lstK (as' σ S) := rfl
@[simp] theorem cCB_ap {m : MF} : cCB m as' σ S = cbK m (as' σ S) := rfl
@[simp] theorem cbK_s {m : MF} : cbK m (some (ts, S)) = m ts S := rfl
@[simp] theorem cMt_ap {n : NF} : cMt n fa as' σ S = mtK (fa σ S) n as' σ := rfl
theorem mtK_s {n : NF} (h : isLst x S = true) : mtK (some (x, S)) n as' σ = mtK2 n x (as' σ S) := by
  unfold mtK mtK2; simp [h]
@[simp] theorem mtK2_s {n : NF} : mtK2 n x (some (ts, S)) = n x ts S := rfl
@[simp] theorem cUn_ap {u : T → Cs → Option (T × Cs)} : cUn u fa σ S = unK u (fa σ S) := rfl
@[simp] theorem unK_s {u : T → Cs → Option (T × Cs)} : unK u (some (x, S)) = u x S := rfl
@[simp] theorem cChain_ap : cChain o g' fa fb fc σ S = chK (fa σ S) o g' fb fc σ := rfl
@[simp] theorem chK_s : chK (some (x, S)) o g' fb fc σ = chK2 x (fb σ S) o g' fc σ := rfl
@[simp] theorem chK2_s : chK2 x (some (y, S)) o g' fc σ = chK3 y (o x y S) g' fc σ := rfl
@[simp] theorem chK3_t : chK3 y (some (.d (.bl true), S)) g' fc σ = binK2 y (fc σ S) g' := rfl
@[simp] theorem chK3_f : chK3 y (some (.d (.bl false), S)) g' fc σ = some (.d (.bl false), S) := rfl
@[simp] theorem cSub_ap : cSub fa fb fc σ S = subK (fc σ S) fa fb σ := rfl
@[simp] theorem subK_s : subK (some (x, S)) fa fb σ = subK2 x (fa σ S) fb σ := rfl
@[simp] theorem subK2_s : subK2 x (some (y, S)) fb σ = subK3 x y (fb σ S) σ := rfl
theorem subK3_s {k j : Nat} {i : Int} (h : S[k]? = some (.lst ts)) (hi : ixN ts.length i = some j) : subK3 x (.own k) (some (ti i, S)) σ = some (.nx, σ, S.set k (.lst (ts.set j x))) := by
  unfold subK3 ownOf asI
  simp [h, hi]
@[simp] theorem cAug_ap {i : Nat} : cAug i o fa σ S = augK i (cV i σ S) o fa σ := rfl
@[simp] theorem augK_s {i : Nat} : augK i (some (x, S)) o fa σ = augK2 i x (fa σ S) o σ := rfl
@[simp] theorem augK2_s {i : Nat} : augK2 i x (some (y, S)) o σ = setK i (o x y S) σ := rfl
@[simp] theorem cAsgT_ap {gt : GF} : cAsgT gt fa σ S = asgK gt (fa σ S) σ := rfl
@[simp] theorem asgK_s {gt : GF} : asgK gt (some (x, S)) σ = (gt (.one x) σ S).map fun q => (.nx, q.1, q.2) := rfl
@[simp] theorem cFor_ap {fi : IF} {gt : GF} {cl : List Nat} : cFor fi gt f cl σ S = forK (fi σ S) gt f cl σ := rfl
@[simp] theorem forK_s {gt : GF} {cl : List Nat} {its : List Itm} {gs : Gs} : forK (some (its, gs, S)) gt f cl σ = loopF gt f cl gs its (forget cl σ) S := rfl
@[simp] theorem cComp_ap {fi : IF} {gt : GF} {vs : List Nat} : cComp fi gt c fa vs σ S = compK (fi σ S) gt c fa vs σ := rfl
@[simp] theorem compK_s {gt : GF} {vs : List Nat} {its : List Itm} {gs : Gs} : compK (some (its, gs, S)) gt c fa vs σ = compK2 (compL gt c fa (forget vs σ) gs its S) := rfl
@[simp] theorem iE_ap : iE fa σ S = iEK (fa σ S) := rfl
@[simp] theorem iEK_s : iEK (some (x, S)) = (seqG x S).map fun q => (q.2.1.map .one, q.2.2, S) := rfl
@[simp] theorem fnM_ap {n : Nat} : fnM n f ts S = fnK (f (startT n ts) S) := rfl
@[simp] theorem fnK_rt : fnK (some (.rt t, σ, S)) = some (t, S) := rfl
@[simp] theorem fnK_nx : fnK (some (.nx, σ, S)) = some (.d .non, S) := rfl
@[simp] theorem cYes_ap : cYes σ S = some (true, S) := rfl
end
theorem le_size {n : Nat} (h : n ≤ 100000) : n ≤ sizeLine := Nat.le_trans h (by decide)
section
variable {S : Cs} {σ : Sg} {ts : List T} {ds : List D}
theorem mapS_d (n : Nat) : ∀ (ds : List D) (S : Cs), mapS (toD n) id (ds.map .d) S = some (ds, S)
  | [], S => rfl
  | d :: ds, S => by
    show ((toD n (.d d) S).bind fun p => (mapS (toD n) id (ds.map .d) p.2).map fun q => (p.1 :: q.1, q.2)) = _
    have e : toD n (.d d) S = some (d, S) := by cases n <;> rfl
    rw [e]
    show (mapS (toD n) id (ds.map .d) S).map _ = _
    rw [mapS_d n ds S]
    rfl
theorem toDs_d (ds : List D) (S : Cs) : toDs (ds.map .d) S = some (ds, S) := mapS_d dep ds S
@[simp] theorem toDs_nil : toDs [] S = some ([], S) := rfl
def consD (d : D) (o : Option (List D × Cs)) : Option (List D × Cs) := o.map fun q => (d :: q.1, q.2)
@[simp] theorem consD_s {d : D} : consD d (some (ds, S)) = some (d :: ds, S) := rfl
@[simp] theorem toDs_d1 {d : D} : toDs (.d d :: ts) S = consD d (toDs ts S) := rfl
@[simp] theorem toD_d {n : Nat} {d : D} : toD n (.d d) S = some (d, S) := by cases n <;> rfl
@[simp] theorem tupK_s (h : ts.length ≤ 1000) : tupK (some (ts, S)) = (toDs ts S).map fun q => (.d (.tup q.1), q.2) := by
  unfold tupK
  show (if ts.length ≤ sizeLine then _ else _) = _
  rw [if_pos (le_size (by omega))]
@[simp] theorem lstK_s (h : ts.length ≤ 1000) : lstK (some (ts, S)) = some (.own S.length, S ++ [.lst ts]) := by
  unfold lstK
  show (if ts.length ≤ sizeLine then _ else _) = _
  rw [if_pos (le_size (by omega))]
theorem compK2_s (h : ts.length ≤ 100000) : compK2 (some (ts, S)) = some (.own S.length, S ++ [.lst ts]) := by
  unfold compK2
  show (if ts.length ≤ sizeLine then _ else _) = _
  rw [if_pos (le_size h)]
@[simp] theorem startT_nil {n : Nat} : startT n [] = List.replicate n none := by simp [startT]
@[simp] theorem startT_cons {n : Nat} {t : T} : startT (n + 1) (t :: ts) = some t :: startT n ts := by
  simp [startT]
theorem seqOf_own {p : Nat} (h : S[p]? = some (.lst ts)) : seqOf (.own p) S = some (false, ts) := by
  unfold seqOf deref; simp [h]
@[simp] theorem seqOf_lst : seqOf (.d (.lst ds)) S = some (false, ds.map .d) := rfl
@[simp] theorem seqOf_tup : seqOf (.d (.tup ds)) S = some (true, ds.map .d) := rfl
@[simp] theorem seqOf_scr {ns : List Int} : seqOf (.d (.scr ns)) S = some (false, ns.map fun i => .d (.int i)) := rfl
@[simp] theorem seqG_lst : seqG (.d (.lst ds)) S = some (false, ds.map .d, []) := rfl
@[simp] theorem seqG_tup : seqG (.d (.tup ds)) S = some (true, ds.map .d, []) := rfl
theorem seqG_own {p : Nat} (h : S[p]? = some (.lst ts)) : seqG (.own p) S = some (false, ts, [(p, ts)]) := by
  unfold seqG deref; simp [h]
theorem ownOf_own {p : Nat} (h : S[p]? = some (.lst ts)) : ownOf (.own p) S = some (p, ts) := by
  unfold ownOf; simp [h]
theorem isLst_own {p : Nat} (h : S[p]? = some (.lst ts)) : isLst (.own p) S = true := by
  unfold isLst; rw [seqOf_own h]
@[simp] theorem asI_int {i : Int} : asI (.d (.int i)) = some i := rfl
theorem atI_nat {α : Type} (xs : List α) (i : Nat) : atI xs (i : Int) = xs[i]? := by
  unfold atI ixN
  rw [if_pos (Int.natCast_nonneg i)]
  by_cases h : (i : Int) < (xs.length : Int)
  · rw [if_pos h]; simp
  · rw [if_neg h]
    have : xs.length ≤ i := by omega
    simp [List.getElem?_eq_none this]
@[simp] theorem atI_0 {α : Type} (xs : List α) : atI xs 0 = xs[0]? := atI_nat xs 0
@[simp] theorem atI_1 {α : Type} (xs : List α) : atI xs 1 = xs[1]? := atI_nat xs 1
@[simp] theorem atI_2 {α : Type} (xs : List α) : atI xs 2 = xs[2]? := atI_nat xs 2
@[simp] theorem atI_3 {α : Type} (xs : List α) : atI xs 3 = xs[3]? := atI_nat xs 3
@[simp] theorem atI_4 {α : Type} (xs : List α) : atI xs 4 = xs[4]? := atI_nat xs 4
theorem atI_ge {α : Type} (xs : List α) (i : Int) (h : 0 ≤ i) : atI xs i = xs[i.toNat]? := by
  have := atI_nat xs i.toNat
  rwa [Int.toNat_of_nonneg h] at this
theorem ixN_ge {n : Nat} {i : Int} (h : 0 ≤ i) (h2 : i < n) : ixN n i = some i.toNat := by
  unfold ixN; rw [if_pos h, if_pos h2]
/-- an item, by what the sequence holds -/
theorem oIx_own {p : Nat} {i : Int} (h : S[p]? = some (.lst ts)) : oIx (.own p) (ti i) S = (atI ts i).map fun t => (t, S) := by
  unfold oIx; simp [seqOf_own h]
@[simp] theorem oIx_lst {i : Int} : oIx (.d (.lst ds)) (ti i) S = (atI (ds.map T.d) i).map fun t => (t, S) := rfl
@[simp] theorem oIx_tup {i : Int} : oIx (.d (.tup ds)) (ti i) S = (atI (ds.map T.d) i).map fun t => (t, S) := rfl
@[simp] theorem oIx_scr {i : Int} {ns : List Int} : oIx (.d (.scr ns)) (ti i) S = (atI (ns.map ti) i).map fun t => (t, S) := rfl
/-! ### ints -/
@[simp] theorem oAdd_int {i j : Int} : oOr oAddI (oOr oCat (oOr oCatT oCatS)) (ti i) (ti j) S = some (ti (i + j), S) := rfl
@[simp] theorem oI0_int {g : Int → Int → D} {i j : Int} : oI0 g (ti i) (ti j) S = some (.d (g i j), S) := rfl
theorem oI_int {C : Int → Int → Prop} [∀ i j, Decidable (C i j)] {g : Int → Int → D} {i j : Int} (h : C i j) : oI C g (ti i) (ti j) S = some (.d (g i j), S) := by
  unfold oI; simp [h]
theorem oMul_int {i j : Int} (h : CMul i j) : oOr oMulI oRep (ti i) (ti j) S = some (ti (i * j), S) := by
  have e : oMulI (ti i) (ti j) S = some (ti (i * j), S) := oI_int h
  unfold oOr
  rw [e]
theorem CDivW_of {i j : Int} (h : 0 < j) (h2 : j < 2 ^ 64) : CDivW i j := wide_div h (b := 64) (by omega) (by decide) (by decide)
theorem oDiv_int {i j : Int} (h : 0 < j) (h2 : j < 2 ^ 64) : oDiv (ti i) (ti j) S = some (ti (i / j), S) := oI_int (CDivW_of h h2)
theorem oMod_int {i j : Int} (h : 0 < j) : oMod (ti i) (ti j) S = some (ti (i % j), S) := oI_int h
theorem oPow_int {i j : Int} (h : CPow i j) : oPow (ti i) (ti j) S = some (ti (i ^ j.toNat), S) := oI_int h
@[simp] theorem pow18 : oPow (ti 10) (ti 18) S = some (ti 1000000000000000000, S) := oPow_int (by decide)
@[simp] theorem pow9 : oPow (ti 10) (ti 9) S = some (ti 1000000000, S) := oPow_int (by decide)
@[simp] theorem pow6 : oPow (ti 10) (ti 6) S = some (ti 1000000, S) := oPow_int (by decide)
@[simp] theorem pow8 : oPow (ti 10) (ti 8) S = some (ti 100000000, S) := oPow_int (by decide)
@[simp] theorem pow11 : oPow (ti 10) (ti 11) S = some (ti 100000000000, S) := oPow_int (by decide)
@[simp] theorem pow12 : oPow (ti 10) (ti 12) S = some (ti 1000000000000, S) := oPow_int (by decide)
@[simp] theorem bInt_int {i : Int} : bInt [ti i] S = some (ti i, S) := rfl
@[simp] theorem bAbs_int {i : Int} : bAbs [ti i] S = some (ti (if i < 0 then -i else i), S) := rfl
@[simp] theorem bLen_lst : bLen [.d (.lst ds)] S = some (ti ds.length, S) := by simp [bLen, b1]
@[simp] theorem bLen_tup : bLen [.d (.tup ds)] S = some (ti ds.length, S) := by simp [bLen, b1]
@[simp] theorem bLen_scr {ns : List Int} : bLen [.d (.scr ns)] S = some (ti ns.length, S) := by simp [bLen, b1]
theorem bLen_own {p : Nat} (h : S[p]? = some (.lst ts)) : bLen [.own p] S = some (ti ts.length, S) := by simp [bLen, b1, seqOf_own h]
end
/-! ### draws -/
abbrev srcC (s : Int × Int) : Cell := .lst [ti s.1, ti s.2]
def dMix (c k : Int) : Int :=
  let a := (c + 7919 * k + 13) % 2147483647
  let b := (a * (a + 48271)) % 2147483629
  (b * (b + 69621) + 31 * k) % 2147483647
def dR (s : Int × Int) (n : Int) : Int := if 1000000000000000000 ≤ s.1 then s.1 % n else (dMix s.1 (s.2 + 1) / 9) % n
def dS (s : Int × Int) (n : Int) : Int × Int := if 1000000000000000000 ≤ s.1 then (s.1 / n, s.2) else (s.1, s.2 + 1)
theorem dR_nn (s : Int × Int) {n : Int} (h : 0 < n) : 0 ≤ dR s n := by
  unfold dR; split <;> exact Int.emod_nonneg _ (by omega)
theorem dR_lt (s : Int × Int) {n : Int} (h : 0 < n) : dR s n < n := by
  unfold dR; split <;> exact Int.emod_lt_of_pos _ h
noncomputable def m_draw : MF := fnM 4 (cSeq (cSet 2 (cBin oIx (cV 0) (cK (.int 0))))
      (cSeq (cIfS (cB (cBin oGe (cV 2) (cBin oPow (cK (.int 10)) (cK (.int 18))))) (cSeq (cSub (cV 0) (cK (.int 0)) (cBin oDiv (cV 2) (cV 1)))
      (cRet (cBin oMod (cCB bInt (aCons (cV 2) (aNil))) (cV 1)))) (cNx))
      (cSeq (cSub (cV 0) (cK (.int 1)) (cBin oAdd (cBin oIx (cV 0) (cK (.int 1))) (cK (.int 1))))
      (cSeq (cSet 3 (cBin oMod (cCB bInt (aCons (cBin oAdd (cBin oAdd (cV 2) (cBin oMul (cK (.int 7919)) (cBin oIx (cV 0) (cK (.int 1))))) (cK (.int 13))) (aNil))) (cK (.int 2147483647))))
      (cSeq (cSet 3 (cBin oMod (cCB bInt (aCons (cBin oMul (cV 3) (cBin oAdd (cV 3) (cK (.int 48271)))) (aNil))) (cK (.int 2147483629))))
      (cSeq (cSet 3 (cBin oMod (cCB bInt (aCons (cBin oAdd (cBin oMul (cV 3) (cBin oAdd (cV 3) (cK (.int 69621)))) (cBin oMul (cK (.int 31)) (cBin oIx (cV 0) (cK (.int 1))))) (aNil))) (cK (.int 2147483647))))
      (cRet (cBin oMod (cCB bInt (aCons (cBin oDiv (cV 3) (cK (.int 9))) (aNil))) (cV 1)))))))))
theorem cm_l {i j : Int} (h : 0 ≤ i) (h2 : i < 2147483647) : CMul i j := .inl ⟨by omega, by omega⟩
theorem m_draw_eq (p : Nat) (n : Int) (S : Cs) (s : Int × Int) (h : S[p]? = some (srcC s)) (h0 : 0 < n) (h1 : n < 2 ^ 64) :
    m_draw [.own p, ti n] S = some (ti (dR s n), S.set p (srcC (dS s n))) := by
  have hp : p < S.length := (List.getElem?_eq_some_iff.mp h).1
  have hs : ∀ c : Cell, (S.set p c)[p]? = some c := fun c => by rw [List.getElem?_set_self hp]
  unfold m_draw
  by_cases hc : 1000000000000000000 ≤ s.1
  · have k0 : ∀ v σ, subK3 v (.own p) (some (ti 0, S)) σ = some (.nx, σ, S.set p (.lst [v, ti s.2])) := fun v σ => subK3_s (i := 0) (j := 0) h (by rfl)
    simp [oIx_own h, oDiv_int h0 h1, oMod_int h0, hc, k0, dR, dS]
  · have k1 : ∀ v σ, subK3 v (.own p) (some (ti 1, S)) σ = some (.nx, σ, S.set p (.lst [ti s.1, v])) := fun v σ => subK3_s (i := 1) (j := 1) h (by rfl)
    have e1 : ∀ i : Int, (0 : Int) ≤ i % 2147483647 := fun i => Int.emod_nonneg _ (by decide)
    have e2 : ∀ i : Int, i % 2147483647 < 2147483647 := fun i => Int.emod_lt_of_pos _ (by decide)
    have e3 : ∀ i : Int, (0 : Int) ≤ i % 2147483629 := fun i => Int.emod_nonneg _ (by decide)
    have e4 : ∀ i : Int, i % 2147483629 < 2147483647 := fun i => by have := Int.emod_lt_of_pos i (b := 2147483629) (by decide); omega
    simp [oIx_own h, oIx_own (hs _), oDiv_int, oMod_int, h0, oMul_int (cm_l (i := 7919) (by decide) (by decide)), oMul_int (cm_l (i := 31) (by decide) (by decide)), oMul_int (cm_l (e1 _) (e2 _)), oMul_int (cm_l (e3 _) (e4 _)), hc, k1, dR, dS, dMix]
end FL
/-! FL: calls, equality, loops, comprehensions, as they are reckoned. -/
namespace FL
open PySem PySem.Spec PyProof.Rows L2
section
variable {S S1 S2 : Cs} {σ : Sg} {ts : List T} {ds : List D} {m : MF} {n : Nat} {fs : AF} {f : EF} {c : BF} {t : T} {d : D}
@[simp] theorem forget_nil : forget [] σ = σ := rfl
@[simp] theorem forget_cons {i : Nat} {is : List Nat} : forget (i :: is) σ = forget is (σ.set i none) := rfl
@[simp] theorem gOk_nil : gOk [] S := trivial
/-! ### calls -/
def callSK (m : MF) (n : Nat) (o : Option (List T × Cs)) : Option (T × Cs) := o.bind fun p => if (p.1 ++ []).length = n then m (p.1 ++ []) p.2 else none
@[simp] theorem cCallS_ap : cCallS m [] n fs σ S = callSK m n (fs σ S) := rfl
@[simp] theorem callSK_s (h : ts.length = n) : callSK m n (some (ts, S)) = m ts S := by
  unfold callSK; simp [h]
def callP3 (o : Option (T × Cs)) (S : Cs) : Option (T × Cs) := o.bind fun u => (toD dep u.1 u.2).map fun w => (.d w.1, S)
def callP2 (o : Option (List D × Cs)) (m : MF) : Option (T × Cs) := o.bind fun q => callP3 (m (q.1.map .d) []) q.2
def callPK (m : MF) (n : Nat) (o : Option (List T × Cs)) : Option (T × Cs) := o.bind fun p => if (p.1 ++ []).length = n then callP2 (toDs (p.1 ++ []) p.2) m else none
@[simp] theorem cCallP_ap : cCallP m [] n fs σ S = callPK m n (fs σ S) := rfl
@[simp] theorem callPK_s (h : ts.length = n) : callPK m n (some (ts, S)) = callP2 (toDs ts S) m := by
  unfold callPK; simp [h]
@[simp] theorem callP2_s : callP2 (some (ds, S)) m = callP3 (m (ds.map .d) []) S := rfl
@[simp] theorem callP3_d : callP3 (some (.d d, S1)) S = some (.d d, S) := by
  unfold callP3; simp
theorem callP3_o {j : Nat} (h : toD dep (.own j) S1 = some (d, S2)) : callP3 (some (.own j, S1)) S = some (.d d, S) := by
  unfold callP3; simp [h]
def callN3 (o : Option (T × Cs)) (S : Cs) : Option (T × Cs) := o.bind fun u => match u.1 with
    | .d d => some (.d d, S)
    | .own j => (match u.2[j]? with
      | some (.lst ts) => (toDs ts u.2).bind fun w => if isFrz w.2[j]? = true then none else some (.own S.length, S ++ [.lst (w.1.map .d)])
      | _ => none)
def callN2 (o : Option (List D × Cs)) (m : MF) : Option (T × Cs) := o.bind fun q => callN3 (m (q.1.map .d) []) q.2
def callNK (m : MF) (n : Nat) (o : Option (List T × Cs)) : Option (T × Cs) := o.bind fun p => if (p.1 ++ []).length = n then callN2 (toDs (p.1 ++ []) p.2) m else none
@[simp] theorem cCallN_ap : cCallN m [] n fs σ S = callNK m n (fs σ S) := rfl
@[simp] theorem callNK_s (h : ts.length = n) : callNK m n (some (ts, S)) = callN2 (toDs ts S) m := by
  unfold callNK; simp [h]
@[simp] theorem callN2_s : callN2 (some (ds, S)) m = callN3 (m (ds.map .d) []) S := rfl
@[simp] theorem callN3_d : callN3 (some (.d d, S1)) S = some (.d d, S) := rfl
theorem callN3_o {j : Nat} (h : S1[j]? = some (.lst (ds.map .d))) : callN3 (some (.own j, S1)) S = some (.own S.length, S ++ [.lst (ds.map .d)]) := by
  unfold callN3
  simp [h, toDs_d, isFrz]
theorem callN3_src {s : Int × Int} : callN3 (some (.own 0, [srcC s])) S = some (.own S.length, S ++ [srcC s]) := rfl
/-- every part is below the number of cells -/
def WfS (S : Cs) : Prop := S.all (cellBelow S.length) = true
def callTK (m : MF) (n : Nat) (o : Option (List T × Cs)) : Option (T × Cs) := o.bind fun p => if (p.1 ++ []).length = n then
  (m (p.1 ++ []) p.2).bind fun u => if below p.2.length u.1 = true then (if (u.2.take p.2.length).all (cellBelow p.2.length) = true then some (u.1, u.2.take p.2.length) else none)
    else (toD dep u.1 u.2).bind fun w => if (w.2.take p.2.length).all (cellBelow p.2.length) = true then some (.d w.1, w.2.take p.2.length) else none
  else none
@[simp] theorem cCallT_ap : cCallT m [] n fs σ S = callTK m n (fs σ S) := rfl
theorem wf_take {S' : Cs} {k : Nat} (hl : S'.length = k) (w : WfS S') : S'.all (cellBelow k) = true := by
  subst hl; exact w
/-- the answer is data, the cells that were there are S', new ones G -/
theorem callTK_s {S' G : Cs} (hn : ts.length = n) (h : m ts S = some (.d d, S' ++ G)) (hl : S'.length = S.length) (w : WfS S') : callTK m n (some (ts, S)) = some (.d d, S') := by
  unfold callTK
  have e : (S' ++ G).take S.length = S' := by rw [← hl, List.take_left]
  simp only [Option.bind_some, List.append_nil, hn, if_true, h, below, e, wf_take hl w]
/-- the answer is a new list, handed back as data -/
theorem callTK_l {S' G : Cs} {j : Nat} (hn : ts.length = n) (h : m ts S = some (.own j, S1)) (hj : S.length ≤ j) (h2 : toD dep (.own j) S1 = some (d, S' ++ G)) (hl : S'.length = S.length) (w : WfS S') : callTK m n (some (ts, S)) = some (.d d, S') := by
  unfold callTK
  have e : (S' ++ G).take S.length = S' := by rw [← hl, List.take_left]
  have hb : ¬ j < S.length := by omega
  simp only [Option.bind_some, List.append_nil, hn, if_true, h, below, hb, h2, e, wf_take hl w, decide_false, if_false, Bool.false_eq_true]
def callUK (m : MF) (n : Nat) (o : Option (List T × Cs)) : Option (T × Cs) := o.bind fun p => if (p.1 ++ []).length = n then
  (m (p.1 ++ []) p.2).bind fun u => match u.1 with
    | .d d => if (u.2.take p.2.length).all (cellBelow p.2.length) = true then some (.d d, u.2.take p.2.length) else none
    | .own j => if j < p.2.length then none else (match u.2[j]? with
      | some (.lst ts) => (toDs ts u.2).bind fun w => if isFrz w.2[j]? = true then none else
          if (w.2.take p.2.length).all (cellBelow p.2.length) = true then some (.own p.2.length, w.2.take p.2.length ++ [.lst (w.1.map .d)]) else none
      | _ => none)
  else none
@[simp] theorem cCallU_ap : cCallU m [] n fs σ S = callUK m n (fs σ S) := rfl
theorem callUK_s {S' G : Cs} {j : Nat} (hn : ts.length = n) (h : m ts S = some (.own j, S' ++ G)) (hj : S.length ≤ j) (h2 : (S' ++ G)[j]? = some (.lst (ds.map .d))) (hl : S'.length = S.length) (w : WfS S') :
    callUK m n (some (ts, S)) = some (.own S.length, S' ++ [.lst (ds.map .d)]) := by
  unfold callUK
  have e : (S' ++ G).take S.length = S' := by rw [← hl, List.take_left]
  have hb : ¬ j < S.length := by omega
  simp only [Option.bind_some, List.append_nil, hn, if_true, h, hb, if_false, h2, toDs_d, isFrz, e, wf_take hl w, Bool.false_eq_true]
/-! ### trims -/
@[simp] theorem cTrim_ap : cTrim f σ S = trimT S.length (f σ S) := rfl
@[simp] theorem cTrimB_ap : cTrimB c σ S = trimB S.length (c σ S) := rfl
theorem trimT_s {S' G : Cs} {k : Nat} (hl : S'.length = k) (w : WfS S') : trimT k (some (.d d, S' ++ G)) = some (.d d, S') := by
  subst hl
  unfold trimT
  simp only [Option.bind_some, below, if_true, List.take_left, wf_take rfl w]
theorem trimT_0 {S' : Cs} {k : Nat} (hl : S'.length = k) (w : WfS S') : trimT k (some (.d d, S')) = some (.d d, S') := by
  have := trimT_s (G := []) (d := d) hl w
  rwa [List.append_nil] at this
theorem trimB_s {S' G : Cs} {k : Nat} {b : Bool} (hl : S'.length = k) (w : WfS S') : trimB k (some (b, S' ++ G)) = some (b, S') := by
  subst hl
  unfold trimB
  simp only [Option.bind_some, if_true, List.take_left, wf_take rfl w]
theorem trimB_0 {S' : Cs} {k : Nat} {b : Bool} (hl : S'.length = k) (w : WfS S') : trimB k (some (b, S')) = some (b, S') := by
  have := trimB_s (G := []) (b := b) hl w
  rwa [List.append_nil] at this
theorem below_mono {n k : Nat} (h : n ≤ k) {t : T} (b : below n t = true) : below k t = true := by
  cases t with
  | d d => rfl
  | own p => exact decide_eq_true (by have := of_decide_eq_true b; omega)
theorem cellBelow_mono {n k : Nat} (h : n ≤ k) {c : Cell} (b : cellBelow n c = true) : cellBelow k c = true := by
  cases c with
  | lst ts => exact List.all_eq_true.mpr fun t ht => below_mono h (List.all_eq_true.mp b t ht)
  | ins c fs => exact List.all_eq_true.mpr fun t ht => below_mono h (List.all_eq_true.mp b t ht)
  | frz d => rfl
theorem all_d (k : Nat) : ∀ (ds : List D), (ds.map T.d).all (below k) = true
  | [] => rfl
  | d :: ds => by rw [List.map_cons, List.all_cons, all_d k ds]; rfl
theorem all_ti (k : Nat) : ∀ (ds : List Int), (ds.map ti).all (below k) = true
  | [] => rfl
  | d :: ds => by rw [List.map_cons, List.all_cons, all_ti k ds]; rfl
theorem wf_nil : WfS [] := rfl
theorem wf_app {c : Cell} (w : WfS S) (h : cellBelow (S.length + 1) c = true) : WfS (S ++ [c]) := by
  unfold WfS
  rw [List.all_append, List.length_append, List.length_singleton, Bool.and_eq_true]
  exact ⟨List.all_eq_true.mpr fun x hx => cellBelow_mono (Nat.le_succ _) (List.all_eq_true.mp w x hx), by simp [h]⟩
theorem wf_set {c : Cell} {p : Nat} (w : WfS S) (h : cellBelow S.length c = true) : WfS (S.set p c) := by
  unfold WfS
  rw [List.length_set]
  exact List.all_eq_true.mpr fun x hx => (List.mem_or_eq_of_mem_set hx).elim (fun z => List.all_eq_true.mp w x z) fun z => by rw [z]; exact h
theorem cb_src {k : Nat} {s : Int × Int} : cellBelow k (srcC s) = true := rfl
theorem cb_ds {k : Nat} : cellBelow k (.lst (ds.map .d)) = true := all_d k ds
theorem cb_ti {k : Nat} {ns : List Int} : cellBelow k (.lst (ns.map ti)) = true := all_ti k ns
/-! ### equality -/
theorem depthAll_int : ∀ ns : List Int, PyData.depthAll (ns.map PyData.int) = 0
  | [] => rfl
  | n :: ns => by
    show max (PyData.depth (.int n)) (PyData.depthAll (ns.map PyData.int)) = 0
    rw [depthAll_int ns]; rfl
theorem canLay_int : ∀ ns : List Int, PyData.canLayAll0 (ns.map PyData.int) = true
  | [] => rfl
  | n :: ns => by
    show (PyData.canLay0 (.int n) && PyData.canLayAll0 (ns.map PyData.int)) = true
    rw [canLay_int ns]; rfl
theorem shaped_ints (ns : List Int) : SeqAt.shaped (.list (ns.map PyData.int)) = true := by
  unfold SeqAt.shaped
  have h1 : PyData.canLay0 (.list (ns.map PyData.int)) = true := canLay_int ns
  have h2 : PyData.depth (.list (ns.map PyData.int)) = 1 := by
    show PyData.depthAll (ns.map PyData.int) + 1 = 1
    rw [depthAll_int]
  rw [h1, h2]; decide
theorem eqvAll_int : ∀ ns ms : List Int, PyData.eqvAll (ns.map PyData.int) (ms.map PyData.int) = decide (ns = ms)
  | [], [] => by simp [PyData.eqvAll]
  | [], m :: ms => by simp [PyData.eqvAll]
  | n :: ns, [] => by simp [PyData.eqvAll]
  | n :: ns, m :: ms => by
    simp only [List.map_cons, PyData.eqvAll, PyData.eqv, eqvAll_int ns ms]
    by_cases h1 : n = m <;> by_cases h2 : ns = ms <;> simp [h1, h2]
theorem pyDs_int : ∀ ns : List Int, pyDs (ns.map D.int) = some (ns.map PyData.int)
  | [] => rfl
  | n :: ns => by
    show ((pyD (.int n)).bind fun p => (pyDs (ns.map D.int)).map fun q => p :: q) = _
    rw [pyDs_int ns]; rfl
theorem mapO_pyInt (k : Nat) (S : Cs) : ∀ ns : List Int, mapO (pyT k S) (ns.map ti) = some (ns.map PyData.int)
  | [] => rfl
  | n :: ns => by
    show ((pyT k S (ti n)).bind fun p => (mapO (pyT k S) (ns.map ti)).map fun q => p :: q) = _
    rw [mapO_pyInt k S ns]
    cases k <;> rfl
/-- what a list of ints is as data -/
theorem pyT_own {p : Nat} {ns : List Int} (h : S[p]? = some (.lst (ns.map ti))) : pyT dep S (.own p) = some (.list (ns.map PyData.int)) := by
  show (match S[p]? with
    | some (.frz d) => pyD d
    | some (.lst ts) => (mapO (pyT 3 S) ts).map PyData.list
    | _ => none) = _
  rw [h]
  show (mapO (pyT 3 S) (ns.map ti)).map PyData.list = _
  rw [mapO_pyInt]
  rfl
theorem pyT_lst {ns : List Int} : pyT dep S (.d (.lst (ns.map D.int))) = some (.list (ns.map PyData.int)) := by
  show (pyDs (ns.map D.int)).map PyData.list = _
  rw [pyDs_int]; rfl
theorem eqT_ints {x y : T} {ns ms : List Int} (hx : pyT dep S x = some (.list (ns.map PyData.int))) (hy : pyT dep S y = some (.list (ms.map PyData.int))) : eqT x y S = some (decide (ns = ms)) := by
  unfold eqT
  rw [hx, hy]
  simp only [shaped_ints, and_self, if_true]
  show some (PyData.eqvAll _ _) = _
  rw [eqvAll_int]
theorem sh_int (i : Int) : SeqAt.shaped (.int i) = true := by
  unfold SeqAt.shaped; simp [PyData.canLay0, PyData.depth]
theorem sh_bool (i : Bool) : SeqAt.shaped (.bool i) = true := by
  unfold SeqAt.shaped; simp [PyData.canLay0, PyData.depth]
@[simp] theorem eqT_int {i j : Int} : eqT (ti i) (ti j) S = some (decide (i = j)) := by
  unfold eqT
  show (if SeqAt.shaped (.int i) = true ∧ SeqAt.shaped (.int j) = true then some (i == j) else none) = _
  rw [sh_int, sh_int, if_pos ⟨rfl, rfl⟩, Bool.beq_eq_decide_eq]
@[simp] theorem eqT_bool {i j : Bool} : eqT (tb i) (tb j) S = some (decide (i = j)) := by
  unfold eqT
  show (if SeqAt.shaped (.bool i) = true ∧ SeqAt.shaped (.bool j) = true then some (i == j) else none) = _
  rw [sh_bool, sh_bool, if_pos ⟨rfl, rfl⟩, Bool.beq_eq_decide_eq]
theorem oEq_of {x y : T} {b : Bool} (h : eqT x y S = some b) : oEq x y S = some (tb b, S) := by
  unfold oEq; rw [h]; rfl
theorem oNe_of {x y : T} {b : Bool} (h : eqT x y S = some b) : oNe x y S = some (tb (!b), S) := by
  unfold oNe; rw [h]; rfl
@[simp] theorem oEq_int {i j : Int} : oEq (ti i) (ti j) S = some (tb (decide (i = j)), S) := oEq_of eqT_int
@[simp] theorem oNe_int {i j : Int} : oNe (ti i) (ti j) S = some (tb (!decide (i = j)), S) := oNe_of eqT_int
@[simp] theorem oEq_bool {i j : Bool} : oEq (tb i) (tb j) S = some (tb (decide (i = j)), S) := oEq_of eqT_bool
@[simp] theorem oNe_bool {i j : Bool} : oNe (tb i) (tb j) S = some (tb (!decide (i = j)), S) := oNe_of eqT_bool
@[simp] theorem oIs_non {x : T} : oIs x (.d .non) S = some (tb (isNone x), S) := rfl
@[simp] theorem oIsN_non {x : T} : oIsN x (.d .non) S = some (tb (!isNone x), S) := rfl
@[simp] theorem isNone_int {i : Int} : isNone (ti i) = false := rfl
@[simp] theorem isNone_non : isNone (.d .non) = true := rfl
@[simp] theorem isNone_own {p : Nat} : isNone (.own p) = false := rfl
@[simp] theorem bIsi_ii {i : Int} : bIsi [ti i, .d (.ty "int")] S = some (tb true, S) := rfl
@[simp] theorem bIsi_ib {i : Int} : bIsi [ti i, .d (.ty "bool")] S = some (tb false, S) := rfl
@[simp] theorem gN_one {i : Nat} : gN i (.one t) σ S = some (σ.set i (some t), S) := rfl
end
/-! ### loops -/
section
variable {α : Type} {g : GF} {body : SF} {cl : List Nat} {gs : Gs} {S : Cs} {σ : Sg}
theorem loopF_nil (h : gOk gs S) : loopF g body cl gs [] σ S = some (.nx, σ, S) := by
  unfold loopF; rw [if_pos h]
theorem loopF_cons {it : Itm} {its : List Itm} (h : gOk gs S) : loopF g body cl gs (it :: its) σ S = ((g it σ S).bind fun q => (body q.1 q.2).bind fun o => match o.1 with
    | .nx => loopF g body cl gs its (forget cl o.2.1) o.2.2
    | .ct => loopF g body cl gs its (forget cl o.2.1) o.2.2
    | .bk => some (.nx, forget cl o.2.1, o.2.2)
    | .rt t => some (.rt t, o.2.1, o.2.2)) := by
  conv => lhs; unfold loopF
  rw [if_pos h] <;> rfl
/-- P: what holds when the items done have been walked -/
theorem loop_inv (enc : α → Itm) (P : List α → Sg → Cs → Prop) (hg : ∀ done σ S, P done σ S → gOk gs S) (xs : List α)
    (hs : ∀ done x rest σ S, xs = done ++ x :: rest → P done σ S → ∃ σ1 S1 σ2 S2, g (enc x) σ S = some (σ1, S1) ∧ body σ1 S1 = some (.nx, σ2, S2) ∧ P (done ++ [x]) (forget cl σ2) S2) (h0 : P [] σ S) :
    ∃ σ' S', loopF g body cl gs (xs.map enc) σ S = some (.nx, σ', S') ∧ P xs σ' S' := by
  have key : ∀ (rest done : List α) (σ : Sg) (S : Cs), xs = done ++ rest → P done σ S → ∃ σ' S', loopF g body cl gs (rest.map enc) σ S = some (.nx, σ', S') ∧ P xs σ' S' := by
    intro rest
    induction rest with
    | nil =>
      intro done σ S e p
      rw [List.append_nil] at e
      subst e
      exact ⟨σ, S, loopF_nil (hg _ _ _ p), p⟩
    | cons x rest ih =>
      intro done σ S e p
      obtain ⟨σ1, S1, σ2, S2, h1, h2, h3⟩ := hs done x rest σ S e p
      obtain ⟨σ', S', h4, h5⟩ := ih (done ++ [x]) _ _ (by rw [e, List.append_assoc]; rfl) h3
      refine ⟨σ', S', ?_, h5⟩
      rw [List.map_cons, loopF_cons (hg _ _ _ p), h1]
      show (body σ1 S1).bind _ = _
      rw [h2]
      exact h4
  exact key xs [] σ S rfl h0
/-- .. that may be left by a return -/
theorem loop_ret (enc : α → Itm) (P : List α → Sg → Cs → Prop) (R : T → Cs → Prop) (hg : ∀ done σ S, P done σ S → gOk gs S) (xs : List α)
    (hs : ∀ done x rest σ S, xs = done ++ x :: rest → P done σ S → ∃ σ1 S1, g (enc x) σ S = some (σ1, S1) ∧ ((∃ σ2 S2, body σ1 S1 = some (.nx, σ2, S2) ∧ P (done ++ [x]) (forget cl σ2) S2) ∨ ∃ t σ2 S2, body σ1 S1 = some (.rt t, σ2, S2) ∧ R t S2)) (h0 : P [] σ S) :
    (∃ σ' S', loopF g body cl gs (xs.map enc) σ S = some (.nx, σ', S') ∧ P xs σ' S') ∨ ∃ t σ' S', loopF g body cl gs (xs.map enc) σ S = some (.rt t, σ', S') ∧ R t S' := by
  have key : ∀ (rest done : List α) (σ : Sg) (S : Cs), xs = done ++ rest → P done σ S → (∃ σ' S', loopF g body cl gs (rest.map enc) σ S = some (.nx, σ', S') ∧ P xs σ' S') ∨ ∃ t σ' S', loopF g body cl gs (rest.map enc) σ S = some (.rt t, σ', S') ∧ R t S' := by
    intro rest
    induction rest with
    | nil =>
      intro done σ S e p
      rw [List.append_nil] at e
      subst e
      exact .inl ⟨σ, S, loopF_nil (hg _ _ _ p), p⟩
    | cons x rest ih =>
      intro done σ S e p
      obtain ⟨σ1, S1, h1, h2⟩ := hs done x rest σ S e p
      rw [List.map_cons, loopF_cons (hg _ _ _ p), h1]
      show _ ∨ _
      rcases h2 with ⟨σ2, S2, h2, h3⟩ | ⟨t, σ2, S2, h2, h3⟩
      · rcases ih (done ++ [x]) _ _ (by rw [e, List.append_assoc]; rfl) h3 with ⟨σ', S', h4, h5⟩ | ⟨t, σ', S', h4, h5⟩
        · exact .inl ⟨σ', S', by rw [Option.bind_some, h2]; exact h4, h5⟩
        · exact .inr ⟨t, σ', S', by rw [Option.bind_some, h2]; exact h4, h5⟩
      · exact .inr ⟨t, σ2, S2, by rw [Option.bind_some, h2]; rfl, h3⟩
  exact key xs [] σ S rfl h0
/-- a comprehension whose parts change nothing -/
theorem compL_pure {t : BF} {f : EF} (enc : α → Itm) (p : α → Bool) (v : α → T) (hg : gOk gs S) : ∀ (xs : List α),
    (∀ x ∈ xs, ∃ σ1, g (enc x) σ S = some (σ1, S) ∧ t σ1 S = some (p x, S) ∧ (p x = true → f σ1 S = some (v x, S))) → compL g t f σ gs (xs.map enc) S = some ((xs.filter p).map v, S)
  | [], _ => by unfold compL; simp [hg]
  | x :: xs, h => by
    obtain ⟨σ1, h1, h2, h3⟩ := h x List.mem_cons_self
    have ih := compL_pure (t := t) (f := f) enc p v hg xs fun y hy => h y (List.mem_cons_of_mem _ hy)
    rw [List.map_cons]
    unfold compL
    rw [if_pos hg, h1]
    show (t σ1 S).bind _ = _
    rw [h2]
    show (if p x = true then _ else _) = _
    by_cases hp : p x = true
    · rw [if_pos hp, h3 hp]
      show (compL g t f σ gs (xs.map enc) S).map _ = _
      rw [ih, List.filter_cons_of_pos hp]
      rfl
    · rw [if_neg hp, List.filter_cons_of_neg hp]
      exact ih
theorem itR_enc (lo hi : Int) : itR lo hi = (rangeL lo hi).map fun i => .one (ti i) := rfl
theorem iRange1_s {fs : AF} {j : Int} {S' : Cs} (h : fs σ S = some ([ti j], S')) (hb : inR j) : iRange1 fs σ S = some (itR 0 j, [], S') := by
  unfold iRange1 iR
  rw [h]
  show (if inR 0 ∧ inR j then _ else _) = _
  rw [if_pos ⟨by decide, hb⟩]
theorem iRange2_s {fs : AF} {i j : Int} {S' : Cs} (h : fs σ S = some ([ti i, ti j], S')) (hi : inR i) (hb : inR j) : iRange2 fs σ S = some (itR i j, [], S') := by
  unfold iRange2 iR
  rw [h]
  show (if inR i ∧ inR j then _ else _) = _
  rw [if_pos ⟨hi, hb⟩]
theorem mem_rangeL {lo hi x : Int} (h : x ∈ rangeL lo hi) : lo ≤ x ∧ x < hi := by
  unfold rangeL at h
  obtain ⟨i, hi', rfl⟩ := List.mem_map.mp h
  have := List.mem_range.mp hi'
  omega
theorem rangeL_len (lo hi : Int) : (rangeL lo hi).length = (hi - lo).toNat := by unfold rangeL; simp
end
/-! ### sources -/
noncomputable def m_source : MF := fnM 2 (cSeq (cIfS (cB (cBin oLt (cV 1) (cCB bLen (aCons (cV 0) (aNil))))) (cRet (cLst (aCons (cCB bAbs (aCons (cBin oIx (cV 0) (cV 1)) (aNil))) (aCons (cV 1) (aNil))))) (cNx))
      (cSeq (cIfS (cB (cBin oEq (cCB bLen (aCons (cV 0) (aNil))) (cK (.int 0)))) (cRet (cLst (aCons (cBin oAdd (cBin oMul (cK (.int 1009)) (cV 1)) (cK (.int 17))) (aCons (cV 1) (aNil))))) (cNx))
      (cRet (cLst (aCons (cBin oAdd (cBin oAdd (cBin oMul (cK (.int 31)) (cCB bAbs (aCons (cBin oIx (cV 0) (cBin oMod (cCB bInt (aCons (cV 1) (aNil))) (cCB bLen (aCons (cV 0) (aNil))))) (aNil)))) (cBin oMul (cK (.int 1009)) (cV 1))) (cK (.int 17))) (aCons (cV 1) (aNil)))))))
theorem m_source_ok (ns : List Int) (k : Nat) : ∃ s, m_source [.d (.scr ns), ti (k : Int)] [] = some (.own 0, [srcC s]) := by
  by_cases h : (k : Int) < (ns.length : Int)
  · have hk : k < ns.length := by omega
    have e : atI (ns.map ti) (k : Int) = some (ti ns[k]) := by rw [atI_nat, List.getElem?_map, List.getElem?_eq_getElem hk]; rfl
    exact ⟨(if ns[k] < 0 then -ns[k] else ns[k], k), by simp [m_source, h, e]⟩
  · by_cases h0 : ns = []
    · subst h0
      have hk : ¬ (k : Int) < 0 := by omega
      exact ⟨(1009 * k + 17, k), by simp [m_source, hk, oMul_int (cm_l (i := 1009) (by decide) (by decide))]⟩
    · have hl : 0 < ns.length := List.length_pos_iff.mpr h0
      have hl' : (0 : Int) < (ns.length : Int) := by omega
      have hm : k % ns.length < ns.length := Nat.mod_lt _ hl
      have e : atI (ns.map ti) ((k : Int) % (ns.length : Int)) = some (ti ns[k % ns.length]) := by
        rw [← Int.natCast_emod, atI_nat, List.getElem?_map, List.getElem?_eq_getElem hm]; rfl
      have hz : ¬ (ns.length : Int) = 0 := by omega
      exact ⟨(31 * (if ns[k % ns.length] < 0 then -ns[k % ns.length] else ns[k % ns.length]) + 1009 * k + 17, k), by
        simp [m_source, h, h0, e, oMod_int hl', oMul_int (cm_l (i := 1009) (by decide) (by decide)), oMul_int (cm_l (i := 31) (by decide) (by decide))]⟩
end FL
namespace FL
open PySem PySem.Spec PyProof.Rows L2
/-- the first statement is done, the others are to be shown -/
theorem run_nx {f g : SF} {σ σ' : Sg} {S S' : Cs} {t : T} (h : f σ S = some (.nx, σ', S')) (k : ∃ S2, fnK (g σ' S') = some (t, S2)) : ∃ S2, fnK (cSeq f g σ S) = some (t, S2) := by
  rw [cSeq_ap, h]
  exact k
end FL
/-! FL: max, min of three. -/
namespace FL
open PySem PySem.Spec PyProof.Rows L2
def b3 (f : T → T → T → Cs → Option (T × Cs)) : MF := fun ts S => match ts with
  | [t, u, w] => f t u w S
  | _ => none
def mx3 (i j k : Int) : Int := if (if i < j then j else i) < k then k else (if i < j then j else i)
def mn3 (i j k : Int) : Int := if k < (if j < i then j else i) then k else (if j < i then j else i)
def bI3 (g : Int → Int → Int → Int) : MF := b3 fun t u w S => match asI t, asI u, asI w with
  | some i, some j, some k => some (.d (.int (g i j k)), S)
  | _, _, _ => none
abbrev bMax3 : MF := bI3 mx3
abbrev bMin3 : MF := bI3 mn3
section
variable {X : Cx}
theorem i3_rd {K : Frg} {g : Int → Int → Int → Int} {vs : List V} {H : Hp} {Q : VK} (h : rF K (bI3 g) vs H Q) : ∃ i j k, vs = [.int i, .int j, .int k] ∧ Q (.int (g i j k)) H := by
  obtain ⟨F, ad, S, ts, t, S', r, rs, e, k⟩ := h
  unfold bI3 b3 at e
  split at e
  · simp only at e
    split at e
    · rename_i i j l hi hj hl
      cases e
      cases rs with
      | cons rx rs => cases rs with
        | cons ry rs => cases rs with
          | cons rz rs => cases rs with
            | nil => exact ⟨i, j, l, by rw [asI_ok hi rx, asI_ok hj ry, asI_ok hl rz], k F ad H _ (.refl r) (Rep.int _)⟩
    · cases e
  · cases e
theorem nuMax2_int (i j : Int) : nuMax2 (.int i) (.int j) = some (.int (if i < j then j else i)) := by
  show (nuLt (.int i) (.int j)).map _ = _
  show (some (decide (i < j))).map _ = _
  by_cases h : i < j <;> simp [h]
theorem nuMin2_int (i j : Int) : nuMin2 (.int i) (.int j) = some (.int (if j < i then j else i)) := by
  show (nuLt (.int j) (.int i)).map _ = _
  show (some (decide (j < i))).map _ = _
  by_cases h : j < i <;> simp [h]
theorem f_max3 (hc : X.calm = true) : CallF X (.builtin "max") bMax3 := CallR.imp (call_max3Nu hc) fun _ _ _ h => by
  obtain ⟨i, j, k, rfl, q⟩ := i3_rd h
  refine ⟨_, _, _, _, rfl, ?_, q⟩
  unfold nuMax3
  rw [nuMax2_int]
  show nuMax2 _ _ = _
  rw [nuMax2_int]
  rfl
theorem f_min3 (hc : X.calm = true) : CallF X (.builtin "min") bMin3 := CallR.imp (call_min3Nu hc) fun _ _ _ h => by
  obtain ⟨i, j, k, rfl, q⟩ := i3_rd h
  refine ⟨_, _, _, _, rfl, ?_, q⟩
  unfold nuMin3
  rw [nuMin2_int]
  show nuMin2 _ _ = _
  rw [nuMin2_int]
  rfl
end
section
variable {S : Cs}
@[simp] theorem bMax3_int {i j k : Int} : bMax3 [ti i, ti j, ti k] S = some (ti (mx3 i j k), S) := rfl
@[simp] theorem bMin3_int {i j k : Int} : bMin3 [ti i, ti j, ti k] S = some (ti (mn3 i j k), S) := rfl
end
end FL
namespace FL
open PySem PySem.Spec PyProof.Rows L2
section
variable {S : Cs} {σ : Sg} {ts : List T} {ds : List D}
theorem set_get {p : Nat} {c c' : Cell} (h : S[p]? = some c') : (S.set p c)[p]? = some c := List.getElem?_set_self (List.getElem?_eq_some_iff.mp h).1
theorem app_get {p : Nat} {c : Cell} {G : Cs} (h : S[p]? = some c) : (S ++ G)[p]? = some c := by
  rw [List.getElem?_append_left (List.getElem?_eq_some_iff.mp h).1]; exact h
theorem set_app {G : Cs} {p : Nat} {c c' : Cell} (h : S[p]? = some c') : (S ++ G).set p c = S.set p c ++ G := List.set_append_left _ _ (List.getElem?_eq_some_iff.mp h).1
theorem last_get {c : Cell} : (S ++ [c])[S.length]? = some c := by simp
theorem last_set {c c' : Cell} : (S ++ [c]).set S.length c' = S ++ [c'] := by simp
theorem append_ok {p : Nat} {t : T} (h : S[p]? = some (.lst ts)) (hl : ts.length < 100000) : mAppend (.own p) [t] S = some (.d .non, S.set p (.lst (ts ++ [t]))) := by
  have hs : ts.length < sizeLine := Nat.lt_of_lt_of_le hl (by decide)
  simp [mAppend, ownOf_own h, hs]
theorem lstOf_own {p : Nat} (h : S[p]? = some (.lst ts)) : lstOf (.own p) S = some ts := by
  unfold lstOf deref; simp [h]
theorem extend_ok {p : Nat} {x : T} {us : List T} (h : S[p]? = some (.lst ts)) (hx : lstOf x S = some us) (hl : ts.length + us.length ≤ 100000) : mExtend (.own p) [x] S = some (.d .non, S.set p (.lst (ts ++ us))) := by
  have hs : ts.length + us.length ≤ sizeLine := Nat.le_trans hl (by decide)
  simp [mExtend, ownOf_own h, hx, hs]
theorem popAt_ok {p : Nat} {i : Int} {t : T} (h : S[p]? = some (.lst ts)) (h0 : 0 ≤ i) (h1 : i < ts.length) (ht : ts[i.toNat]? = some t) (hb : ts.length ≤ 100000) : mPopAt (.own p) [ti i] S = some (t, S.set p (.lst (ts.eraseIdx i.toNat))) := by
  have e : seqIndex? i ts.length = some i.toNat := seqIndex_of h0 (by omega)
  have b : -(2 ^ 63) ≤ i ∧ i < 2 ^ 63 := ⟨by omega, by omega⟩
  simp only [mPopAt, ownOf_own h, asI_int, e, b, and_self, if_true, ht, Option.map_some]
theorem toD_own {p : Nat} (h : S[p]? = some (.lst (ds.map .d))) : toD dep (.own p) S = some (.lst ds, S.set p (.frz (.lst ds))) := by
  unfold toD
  rw [h]
  show (mapS (toD _) id (ds.map .d) S).bind _ = _
  rw [mapS_d]
  show (if isFrz S[p]? = true then none else some (D.lst ds, S.set p (.frz (.lst ds)))) = _
  rw [h]
  rfl
theorem map_ti (ns : List Int) : ns.map ti = (ns.map D.int).map T.d := by rw [List.map_map]; rfl
theorem bListA_seq {x : T} {b : Bool} (h : seqOf x S = some (b, ts)) : bOr bList bListR [x] S = some (.own S.length, S ++ [.lst ts]) := by
  have e : bList [x] S = some (.own S.length, S ++ [.lst ts]) := by
    show (seqOf x S).map _ = _
    rw [h]; rfl
  unfold bOr
  rw [e]
theorem oIx_seq {x : T} {b : Bool} {i : Int} (h : seqOf x S = some (b, ts)) : oIx x (ti i) S = (atI ts i).map fun t => (t, S) := by
  unfold oIx; simp [h]
theorem seqG_seqOf {x : T} {b : Bool} {gs : Gs} (h : seqG x S = some (b, ts, gs)) : seqOf x S = some (b, ts) := by
  have key : ∀ t : T, deref x S = t → seqOf x S = some (b, ts) := fun t e => by
    unfold seqG at h
    unfold seqOf
    rw [e] at h ⊢
    cases t with
    | d d => cases d <;> first | (cases h; rfl) | cases h
    | own p =>
      show (match S[p]? with | some (.lst ts) => some (false, ts) | _ => none) = _
      have h' : (match S[p]? with | some (.lst ts) => some (false, ts, [(p, ts)]) | _ => none) = some (b, ts, gs) := h
      cases q : S[p]? with
      | none => rw [q] at h'; cases h'
      | some c => rw [q] at h'; cases c with
        | lst us => cases h'; rfl
        | ins _ _ => cases h'
        | frz _ => cases h'
  exact key _ rfl
theorem mapO_asI : ∀ ns : List Int, mapO asI (ns.map ti) = some ns
  | [] => rfl
  | n :: ns => by
    show ((some n).bind fun a => (mapO asI (ns.map ti)).map fun l => a :: l) = _
    rw [mapO_asI ns]; rfl
theorem intsOf_own {p : Nat} {ns : List Int} (h : S[p]? = some (.lst (ns.map ti))) : intsOf (.own p) S = some ns := by
  unfold intsOf; rw [seqOf_own h]; exact mapO_asI ns
theorem intsOf_lst {ns : List Int} : intsOf (.d (.lst (ns.map D.int))) S = some ns := by
  unfold intsOf
  rw [seqOf_lst, ← map_ti]; exact mapO_asI ns
theorem bSum_own {p : Nat} {ns : List Int} (h : S[p]? = some (.lst (ns.map ti))) : bSum [.own p] S = some (ti ns.sum, S) := by
  show (intsOf (.own p) S).map _ = _
  rw [intsOf_own h]; rfl
theorem bSortI_own {p : Nat} {ns : List Int} (h : S[p]? = some (.lst (ns.map ti))) : bSortI [.own p] S = some (.own S.length, S ++ [.lst ((srt ns).map ti)]) := by
  show (intsOf (.own p) S).map _ = _
  rw [intsOf_own h]; rfl
@[simp] theorem gT_tup {n : Nat} {gs : GsF} : gT n gs (.one (.d (.tup ds))) σ S = if (ds.map T.d).length = n then gs (ds.map T.d) σ S else none := rfl
@[simp] theorem gCons_ap {g : GF} {gs : GsF} {t : T} : gCons g gs (t :: ts) σ S = (g (.one t) σ S).bind fun q => gs ts q.1 q.2 := rfl
@[simp] theorem gNil_ap : gNil [] σ S = some (σ, S) := rfl
/-- a comprehension over a sequence, whose parts change nothing -/
theorem cComp_seq {α : Type} {g : GF} {t : BF} {f fe : EF} {vs : List Nat} {x : T} {b : Bool} {gs : Gs} {xs : List α} (enc : α → T) (p : α → Bool) (v : α → T) (hx : fe σ S = some (x, S)) (hs : seqG x S = some (b, xs.map enc, gs)) (hl : xs.length ≤ 100000)
    (h : ∀ y ∈ xs, ∃ σ1, g (.one (enc y)) (forget vs σ) S = some (σ1, S) ∧ t σ1 S = some (p y, S) ∧ (p y = true → f σ1 S = some (v y, S))) :
    cComp (iE fe) g t f vs σ S = some (.own S.length, S ++ [.lst ((xs.filter p).map v)]) := by
  have e := compL_pure (σ := forget vs σ) (fun y => Itm.one (enc y)) p v (gOk_now hs) xs h
  have l : ((xs.filter p).map v).length ≤ 100000 := by
    rw [List.length_map]; exact Nat.le_trans (List.length_filter_le _ _) hl
  rw [cComp_ap, iE_ap, hx, iEK_s, hs]
  show compK (some ((xs.map enc).map .one, gs, S)) g t f vs σ = _
  rw [compK_s, List.map_map]
  show compK2 (compL g t f (forget vs σ) gs (xs.map fun y => Itm.one (enc y)) S) = _
  rw [e, compK2_s l]
theorem filter_yes {α : Type} (xs : List α) : xs.filter (fun _ => true) = xs := List.filter_eq_self.mpr fun _ _ => rfl
theorem cComp_all {α : Type} {g : GF} {f fe : EF} {vs : List Nat} {x : T} {b : Bool} {gs : Gs} {xs : List α} (enc : α → T) (v : α → T) (hx : fe σ S = some (x, S)) (hs : seqG x S = some (b, xs.map enc, gs)) (hl : xs.length ≤ 100000)
    (h : ∀ y ∈ xs, ∃ σ1, g (.one (enc y)) (forget vs σ) S = some (σ1, S) ∧ f σ1 S = some (v y, S)) :
    cComp (iE fe) g cYes f vs σ S = some (.own S.length, S ++ [.lst (xs.map v)]) := by
  have e := cComp_seq (t := cYes) (f := f) enc (fun _ => true) v hx hs hl fun y hy => let ⟨s, h1, h2⟩ := h y hy; ⟨s, h1, rfl, fun _ => h2⟩
  rwa [filter_yes] at e
/-- .. over a range -/
theorem cComp_rng {g : GF} {t : BF} {f : EF} {fi : IF} {vs : List Nat} {lo hi : Int} (p : Int → Bool) (v : Int → T) (hx : fi σ S = some (itR lo hi, [], S)) (hl : hi - lo ≤ 100000)
    (h : ∀ y ∈ rangeL lo hi, ∃ σ1, g (.one (ti y)) (forget vs σ) S = some (σ1, S) ∧ t σ1 S = some (p y, S) ∧ (p y = true → f σ1 S = some (v y, S))) :
    cComp fi g t f vs σ S = some (.own S.length, S ++ [.lst (((rangeL lo hi).filter p).map v)]) := by
  have e := compL_pure (σ := forget vs σ) (gs := []) (fun y : Int => Itm.one (ti y)) p v gOk_nil (rangeL lo hi) h
  have l : (((rangeL lo hi).filter p).map v).length ≤ 100000 := by
    rw [List.length_map]
    have := List.length_filter_le p (rangeL lo hi)
    rw [rangeL_len] at this
    omega
  rw [cComp_ap, hx, compK_s, itR_enc, e, compK2_s l]
theorem cComp_rngA {g : GF} {f : EF} {fi : IF} {vs : List Nat} {lo hi : Int} (v : Int → T) (hx : fi σ S = some (itR lo hi, [], S)) (hl : hi - lo ≤ 100000)
    (h : ∀ y ∈ rangeL lo hi, ∃ σ1, g (.one (ti y)) (forget vs σ) S = some (σ1, S) ∧ f σ1 S = some (v y, S)) :
    cComp fi g cYes f vs σ S = some (.own S.length, S ++ [.lst ((rangeL lo hi).map v)]) := by
  have e := cComp_rng (t := cYes) (f := f) (fun _ => true) v hx hl fun y hy => let ⟨s, h1, h2⟩ := h y hy; ⟨s, h1, rfl, fun _ => h2⟩
  rwa [filter_yes] at e
/-- a statement that goes on, then the others -/
theorem seq_ex {f g : SF} {σ' : Sg} {S' : Cs} {P : Sg → Cs → Prop} (h : f σ S = some (.nx, σ', S')) (k : ∃ σ2 S2, g σ' S' = some (.nx, σ2, S2) ∧ P σ2 S2) : ∃ σ2 S2, cSeq f g σ S = some (.nx, σ2, S2) ∧ P σ2 S2 := by
  rw [cSeq_ap, h]
  exact k
theorem loop_go {α : Type} {g : GF} {body : SF} {cl : List Nat} {gs : Gs} (enc : α → Itm) (P : List α → Sg → Cs → Prop) (hg : ∀ done σ S, P done σ S → gOk gs S) (xs : List α)
    (hs : ∀ done x rest σ S, xs = done ++ x :: rest → P done σ S → ∃ σ1 S1, g (enc x) σ S = some (σ1, S1) ∧ ∃ σ2 S2, body σ1 S1 = some (.nx, σ2, S2) ∧ P (done ++ [x]) (forget cl σ2) S2) (h0 : P [] σ S) :
    ∃ σ' S', loopF g body cl gs (xs.map enc) σ S = some (.nx, σ', S') ∧ P xs σ' S' :=
  loop_inv enc P hg xs (fun done x rest σ S e p => let ⟨a, b, c, d, f, g, h⟩ := hs done x rest σ S e p; ⟨a, b, d, f, c, g, h⟩) h0
/-- equality of what is the same data -/
theorem eqT_same {x y : T} {p : PyData} (hx : pyT dep S x = some p) (hy : pyT dep S y = some p) (hs : SeqAt.shaped p = true) (hr : PyData.eqv p p = true) : eqT x y S = some true := by
  unfold eqT
  rw [hx, hy]
  simp [hs, hr]
end
end FL
namespace Lw
open PySem PySem.Spec PyProof.Rows L2 FL
noncomputable def m_cost_of : MF := fnM 5 (cRet (cTrim (cCB bSum (aCons (cComp (iE (cV 0)) (gT 3 (gCons (gN 2) (gCons (gN 3) (gCons (gN 4) (gNil))))) (cYes) (cBin oMul (cV 4) (cCB bMax3 (aCons (cBin oSub (cV 2) (cV 1)) (aCons (cBin oSub (cV 1) (cV 3)) (aCons (cK (.int 0)) (aNil)))))) [2, 3, 4]) (aNil)))))
noncomputable def m_repeated_bounds : MF := fnM 5 (cSeq (cSet 1 (cLst (aNil)))
      (cSeq (cFor (iE (cV 0)) (gT 3 (gCons (gN 2) (gCons (gN 3) (gCons (gN 4) (gNil))))) (cDrop (cTrim (cMt mExtend (cV 1) (aCons (cBin oMul (cLst (aCons (cV 2) (aCons (cV 3) (aNil)))) (cV 4)) (aNil))))) [2, 3, 4])
      (cRet (cCB bSortI (aCons (cV 1) (aNil))))))
noncomputable def m_l_source : MF := fnM 2 (cSeq (cIfS (cB (cBin oLt (cV 1) (cCB bLen (aCons (cV 0) (aNil))))) (cRet (cLst (aCons (cCB bAbs (aCons (cBin oIx (cV 0) (cV 1)) (aNil))) (aCons (cV 1) (aNil))))) (cNx))
      (cSeq (cIfS (cB (cBin oEq (cCB bLen (aCons (cV 0) (aNil))) (cK (.int 0)))) (cRet (cLst (aCons (cBin oAdd (cBin oMul (cK (.int 1009)) (cV 1)) (cK (.int 17))) (aCons (cV 1) (aNil))))) (cNx))
      (cRet (cLst (aCons (cBin oAdd (cBin oAdd (cBin oMul (cK (.int 31)) (cCB bAbs (aCons (cBin oIx (cV 0) (cBin oMod (cCB bInt (aCons (cV 1) (aNil))) (cCB bLen (aCons (cV 0) (aNil))))) (aNil)))) (cBin oMul (cK (.int 1009)) (cV 1))) (cK (.int 17))) (aCons (cV 1) (aNil)))))))
noncomputable def m_l_draw : MF := fnM 4 (cSeq (cSet 2 (cBin oIx (cV 0) (cK (.int 0))))
      (cSeq (cIfS (cB (cBin oGe (cV 2) (cBin oPow (cK (.int 10)) (cK (.int 18))))) (cSeq (cSub (cV 0) (cK (.int 0)) (cBin oDiv (cV 2) (cV 1)))
      (cRet (cBin oMod (cCB bInt (aCons (cV 2) (aNil))) (cV 1)))) (cNx))
      (cSeq (cSub (cV 0) (cK (.int 1)) (cBin oAdd (cBin oIx (cV 0) (cK (.int 1))) (cK (.int 1))))
      (cSeq (cSet 3 (cBin oMod (cCB bInt (aCons (cBin oAdd (cBin oAdd (cV 2) (cBin oMul (cK (.int 7919)) (cBin oIx (cV 0) (cK (.int 1))))) (cK (.int 13))) (aNil))) (cK (.int 2147483647))))
      (cSeq (cSet 3 (cBin oMod (cCB bInt (aCons (cBin oMul (cV 3) (cBin oAdd (cV 3) (cK (.int 48271)))) (aNil))) (cK (.int 2147483629))))
      (cSeq (cSet 3 (cBin oMod (cCB bInt (aCons (cBin oAdd (cBin oMul (cV 3) (cBin oAdd (cV 3) (cK (.int 69621)))) (cBin oMul (cK (.int 31)) (cBin oIx (cV 0) (cK (.int 1))))) (aNil))) (cK (.int 2147483647))))
      (cRet (cBin oMod (cCB bInt (aCons (cBin oDiv (cV 3) (cK (.int 9))) (aNil))) (cV 1)))))))))
noncomputable def m_l_whole : MF := fnM 1 (cRet (cAndV (cCB bIsi (aCons (cV 0) (aCons (cK (.ty "int")) (aNil)))) (cBV (cNot (cB (cCB bIsi (aCons (cV 0) (aCons (cK (.ty "bool")) (aNil)))))))))
noncomputable def m_l_marks : MF := fnM 3 (cSeq (cSet 1 (cLst (aNil)))
      (cSeq (cFor (iE (cV 0)) (gN 2) (cDrop (cTrim (cMt mExtend (cV 1) (aCons (cLst (aCons (cBin oSub (cBin oIx (cV 2) (cK (.int 0))) (cK (.int 1))) (aCons (cBin oIx (cV 2) (cK (.int 0))) (aCons (cBin oIx (cV 2) (cK (.int 1))) (aCons (cBin oAdd (cBin oIx (cV 2) (cK (.int 1))) (cK (.int 1))) (aNil)))))) (aNil))))) [2])
      (cRet (cCB bSortI (aCons (cV 1) (aNil))))))
noncomputable def m_l_cost : MF := fnM 3 (cRet (cTrim (cCB bSum (aCons (cComp (iE (cV 0)) (gN 2) (cYes) (cBin oMul (cBin oIx (cV 2) (cK (.int 2))) (cCB bMax3 (aCons (cBin oSub (cBin oIx (cV 2) (cK (.int 0))) (cV 1)) (aCons (cBin oSub (cV 1) (cBin oIx (cV 2) (cK (.int 1)))) (aCons (cK (.int 0)) (aNil)))))) [2]) (aNil)))))
noncomputable def m_l_bounds : MF := fnM 3 (cSeq (cSet 1 (cLst (aNil)))
      (cSeq (cFor (iE (cV 0)) (gN 2) (cDrop (cTrim (cMt mExtend (cV 1) (aCons (cBin oMul (cLst (aCons (cBin oIx (cV 2) (cK (.int 0))) (aCons (cBin oIx (cV 2) (cK (.int 1))) (aNil)))) (cBin oIx (cV 2) (cK (.int 2)))) (aNil))))) [2])
      (cRet (cCB bSortI (aCons (cV 1) (aNil))))))
noncomputable def m_middle_span : MF := fnM 5 (cSeq (cSet 1 (cCallP m_repeated_bounds [] 1 (aCons (cV 0) (aNil))))
      (cSeq (cSet 2 (cBin oDiv (cCB bLen (aCons (cV 1) (aNil))) (cK (.int 2))))
      (cSeq (cSet 3 (cBin oIx (cV 1) (cBin oSub (cV 2) (cK (.int 1)))))
      (cSeq (cSet 4 (cBin oIx (cV 1) (cV 2)))
      (cRet (cTup (aCons (cCallP m_cost_of [] 2 (aCons (cV 0) (aCons (cV 3) (aNil)))) (aCons (cV 3) (aCons (cV 4) (aNil))))))))))
noncomputable def m_l_between : MF := fnM 3 (cRet (cBin oAdd (cV 1) (cCallS m_l_draw [] 2 (aCons (cV 0) (aCons (cBin oAdd (cBin oSub (cV 2) (cV 1)) (cK (.int 1))) (aNil))))))
noncomputable def m_l_same : MF := fnM 3 (cSeq (cIfS (cOr (cNot (cB (cCB bIsi (aCons (cV 0) (aCons (cK (.ty "tuple")) (aNil)))))) (cB (cBin oNe (cCB bLen (aCons (cV 0) (aNil))) (cK (.int 3))))) (cRet (cK (.bl false))) (cNx))
      (cSeq (cFor (iE (cV 0)) (gN 2) (cIfS (cNot (cB (cCallP m_l_whole [] 1 (aCons (cV 2) (aNil))))) (cRet (cK (.bl false))) (cNx)) [2])
      (cRet (cBin oEq (cV 0) (cV 1)))))
noncomputable def m_l_estimates : MF := fnM 10 (cSeq (cSet 3 (cLst (aNil)))
      (cSeq (cFor (iRange1 (aCons (cV 1) (aNil))) (gN 4) (cSeq (cSet 5 (cCallS m_l_draw [] 2 (aCons (cV 0) (aCons (cK (.int 4)) (aNil)))))
      (cSeq (cSet 6 (cCallS m_l_between [] 3 (aCons (cV 0) (aCons (cBin oSub (cK (.int 0)) (cK (.int 6))) (aCons (cK (.int 9)) (aNil))))))
      (cSeq (cSet 7 (cBin oAdd (cK (.int 1)) (cCallS m_l_draw [] 2 (aCons (cV 0) (aCons (cV 2) (aNil))))))
      (cSeq (cIfS (cB (cBin oGt (cV 4) (cK (.int 0)))) (cSeq (cSet 8 (cBin oIx (cV 3) (cCallS m_l_draw [] 2 (aCons (cV 0) (aCons (cV 4) (aNil))))))
      (cSeq (cIfS (cOr (cB (cBin oEq (cV 5) (cK (.int 1)))) (cB (cBin oEq (cV 5) (cK (.int 2))))) (cSet 7 (cBin oIx (cV 8) (cK (.int 2)))) (cNx))
      (cSeq (cIfS (cB (cBin oEq (cV 5) (cK (.int 2)))) (cSet 6 (cBin oAdd (cBin oIx (cV 8) (cK (.int 1))) (cK (.int 1)))) (cNx))
      (cIfS (cB (cBin oEq (cV 5) (cK (.int 3)))) (cSet 6 (cBin oIx (cV 8) (cK (.int 0)))) (cNx))))) (cNx))
      (cSeq (cIfS (cB (cBin oGt (cV 6) (cK (.int 12)))) (cSet 6 (cBin oSub (cV 6) (cK (.int 18)))) (cNx))
      (cSeq (cSet 9 (cCallS m_l_draw [] 2 (aCons (cV 0) (aCons (cBin oAdd (cK (.int 1)) (cCallS m_l_draw [] 2 (aCons (cV 0) (aCons (cK (.int 6)) (aNil))))) (aNil)))))
      (cDrop (cMt mAppend (cV 3) (aCons (cTup (aCons (cV 6) (aCons (cBin oAdd (cV 6) (cV 9)) (aCons (cV 7) (aNil))))) (aNil)))))))))) [4, 5, 6, 7, 8, 9])
      (cRet (cV 3))))
noncomputable def m_l_far : MF := fnM 2 (cSeq (cSet 1 (cCallS m_l_draw [] 2 (aCons (cV 0) (aCons (cK (.int 4)) (aNil)))))
      (cSeq (cIfS (cB (cBin oEq (cV 1) (cK (.int 0)))) (cRet (cBin oSub (cK (.int 6)) (cBin oPow (cK (.int 10)) (cK (.int 9))))) (cNx))
      (cSeq (cIfS (cB (cBin oEq (cV 1) (cK (.int 1)))) (cRet (cBin oSub (cBin oPow (cK (.int 10)) (cK (.int 9))) (cK (.int 17)))) (cNx))
      (cRet (cCallS m_l_between [] 3 (aCons (cV 0) (aCons (cBin oSub (cK (.int 0)) (cBin oPow (cK (.int 10)) (cK (.int 8)))) (aCons (cBin oPow (cK (.int 10)) (cK (.int 8))) (aNil)))))))))
noncomputable def m_l_moved : MF := fnM 9 (cSeq (cSet 2 (cCallS m_l_draw [] 2 (aCons (cV 0) (aCons (cK (.int 4)) (aNil)))))
      (cSeq (cIfS (cB (cBin oGt (cV 2) (cK (.int 1)))) (cRet (cV 1)) (cNx))
      (cSeq (cSet 3 (cCallS m_l_far [] 1 (aCons (cV 0) (aNil))))
      (cSeq (cSet 4 (cV 3))
      (cSeq (cIfS (cB (cBin oEq (cV 2) (cK (.int 1)))) (cSet 4 (cCallS m_l_far [] 1 (aCons (cV 0) (aNil)))) (cNx))
      (cSeq (cSet 5 (cCB bSortI (aCons (cLst (aCons (cV 3) (aCons (cV 4) (aNil)))) (aNil))))
      (cSeq (cSet 6 (cLst (aNil)))
      (cSeq (cFor (iE (cV 1)) (gN 7) (cSeq (cSet 8 (cCallS m_l_draw [] 2 (aCons (cV 0) (aCons (cK (.int 3)) (aNil)))))
      (cDrop (cMt mAppend (cV 6) (aCons (cTup (aCons (cBin oAdd (cBin oIx (cV 7) (cK (.int 0))) (cBin oIx (cV 5) (cBin oDiv (cV 8) (cK (.int 2))))) (aCons (cBin oAdd (cBin oIx (cV 7) (cK (.int 1))) (cBin oIx (cV 5) (cCB bMin2 (aCons (cV 8) (aCons (cK (.int 1)) (aNil)))))) (aCons (cBin oIx (cV 7) (cK (.int 2))) (aNil))))) (aNil))))) [7, 8])
      (cRet (cV 6))))))))))
noncomputable def m_law : MF := fnM 15 (cSeq (cSet 1 (cCallN m_l_source [] 2 (aCons (cV 0) (aCons (cK (.int 0)) (aNil)))))
      (cSeq (cSet 2 (cBin oAdd (cK (.int 1)) (cCallS m_l_draw [] 2 (aCons (cV 1) (aCons (cK (.int 6)) (aNil))))))
      (cSeq (cIfS (cB (cBin oEq (cCallS m_l_draw [] 2 (aCons (cV 1) (aCons (cK (.int 8)) (aNil)))) (cK (.int 0)))) (cSet 2 (cBin oAdd (cK (.int 1)) (cCallS m_l_draw [] 2 (aCons (cV 1) (aCons (cK (.int 40)) (aNil)))))) (cNx))
      (cSeq (cSet 3 (cK (.int 4)))
      (cSeq (cIfS (cB (cBin oEq (cCallS m_l_draw [] 2 (aCons (cV 1) (aCons (cK (.int 4)) (aNil)))) (cK (.int 0)))) (cSet 3 (cK (.int 99))) (cNx))
      (cSeq (cSet 4 (cTrim (cCallT m_l_moved [] 2 (aCons (cCallN m_l_source [] 2 (aCons (cV 0) (aCons (cK (.int 2)) (aNil)))) (aCons (cTrim (cCallT m_l_estimates [] 3 (aCons (cCallN m_l_source [] 2 (aCons (cV 0) (aCons (cK (.int 1)) (aNil)))) (aCons (cV 2) (aCons (cV 3) (aNil)))))) (aNil))))))
      (cSeq (cSet 5 (cCB bListA (aCons (cV 4) (aNil))))
      (cSeq (cIfS (cB (cBin oEq (cCallS m_l_draw [] 2 (aCons (cV 1) (aCons (cK (.int 2)) (aNil)))) (cK (.int 1)))) (cSet 5 (cCB bTuple (aCons (cV 4) (aNil)))) (cNx))
      (cSeq (cSet 6 (cCallP m_l_bounds [] 1 (aCons (cV 4) (aNil))))
      (cSeq (cSet 7 (cBin oIx (cV 6) (cBin oSub (cBin oDiv (cCB bLen (aCons (cV 6) (aNil))) (cK (.int 2))) (cK (.int 1)))))
      (cSeq (cSet 8 (cBin oIx (cV 6) (cBin oDiv (cCB bLen (aCons (cV 6) (aNil))) (cK (.int 2)))))
      (cSeq (cSet 9 (cCallP m_l_cost [] 2 (aCons (cV 4) (aCons (cV 7) (aNil)))))
      (cSeq (cFor (iRange1 (aCons (cK (.int 2)) (aNil))) (gN 10) (cIfS (cOr (cNot (cB (cCallP m_l_same [] 2 (aCons (cCallP m_middle_span [] 1 (aCons (cV 5) (aNil))) (aCons (cTup (aCons (cV 9) (aCons (cV 7) (aCons (cV 8) (aNil))))) (aNil)))))) (cTrimB (cB (cBin oNe (cCB bListA (aCons (cV 5) (aNil))) (cV 4))))) (cRet (cK (.bl false))) (cNx)) [10])
      (cSeq (cSet 11 (cBin oAdd (cCallP m_l_marks [] 1 (aCons (cV 4) (aNil))) (cComp (iRange2 (aCons (cBin oSub (cK (.int 0)) (cK (.int 3))) (aCons (cK (.int 12)) (aNil)))) (gN 12) (cYes) (cBin oAdd (cV 7) (cV 12)) [12])))
      (cSeq (cFor (iE (cBin oAdd (cV 11) (cLst (aCons (cBin oDiv (cBin oAdd (cV 7) (cV 8)) (cK (.int 2))) (aCons (cBin oSub (cV 8) (cK (.int 1))) (aCons (cBin oAdd (cV 8) (cK (.int 1))) (aNil))))))) (gN 13) (cSeq (cSet 14 (cCallP m_l_cost [] 2 (aCons (cV 4) (aCons (cV 13) (aNil)))))
      (cIfS (cOr (cB (cBin oLt (cV 14) (cV 9))) (cB (cBin oNe (cBin oEq (cV 14) (cV 9)) (cAndV (cBin oLe (cV 7) (cV 13)) (cBin oLe (cV 13) (cV 8)))))) (cRet (cK (.bl false))) (cNx))) [13, 14])
      (cRet (cK (.bl true))))))))))))))))))
end Lw
namespace Lw
open PySem PySem.Spec PyProof.Rows L2 FL
def top (i : Nat) : Stmt := PySem.Challenge.pw_counthall_k38_middle_span.main.body.getD i (.Pass ⟨0, 0, 0, 0⟩)
structure Tx (K : Frg) (mg : Str → Option Value) : Prop where
  g_cost_of : mg "cost_of" = some (.ref (He.ga K "cost_of"))
  d_cost_of : ∃ fd, FunD K "cost_of" "cost_of" (defArgs (top 1)) (defBody (top 1)) (defScope (top 1)) [] [] (He.ga K "cost_of") fd
  g_repeated_bounds : mg "repeated_bounds" = some (.ref (He.ga K "repeated_bounds"))
  d_repeated_bounds : ∃ fd, FunD K "repeated_bounds" "repeated_bounds" (defArgs (top 2)) (defBody (top 2)) (defScope (top 2)) [] [] (He.ga K "repeated_bounds") fd
  g_l_source : mg "_law_source" = some (.ref (He.ga K "_law_source"))
  d_l_source : ∃ fd, FunD K "_law_source" "_law_source" (defArgs (top 5)) (defBody (top 5)) (defScope (top 5)) [] [] (He.ga K "_law_source") fd
  g_l_draw : mg "_law_draw" = some (.ref (He.ga K "_law_draw"))
  d_l_draw : ∃ fd, FunD K "_law_draw" "_law_draw" (defArgs (top 6)) (defBody (top 6)) (defScope (top 6)) [] [] (He.ga K "_law_draw") fd
  g_l_whole : mg "_law_whole" = some (.ref (He.ga K "_law_whole"))
  d_l_whole : ∃ fd, FunD K "_law_whole" "_law_whole" (defArgs (top 8)) (defBody (top 8)) (defScope (top 8)) [] [] (He.ga K "_law_whole") fd
  g_l_marks : mg "_law_marks" = some (.ref (He.ga K "_law_marks"))
  d_l_marks : ∃ fd, FunD K "_law_marks" "_law_marks" (defArgs (top 12)) (defBody (top 12)) (defScope (top 12)) [] [] (He.ga K "_law_marks") fd
  g_l_cost : mg "_law_cost" = some (.ref (He.ga K "_law_cost"))
  d_l_cost : ∃ fd, FunD K "_law_cost" "_law_cost" (defArgs (top 13)) (defBody (top 13)) (defScope (top 13)) [] [] (He.ga K "_law_cost") fd
  g_l_bounds : mg "_law_bounds" = some (.ref (He.ga K "_law_bounds"))
  d_l_bounds : ∃ fd, FunD K "_law_bounds" "_law_bounds" (defArgs (top 14)) (defBody (top 14)) (defScope (top 14)) [] [] (He.ga K "_law_bounds") fd
  g_middle_span : mg "middle_span" = some (.ref (He.ga K "middle_span"))
  d_middle_span : ∃ fd, FunD K "middle_span" "middle_span" (defArgs (top 3)) (defBody (top 3)) (defScope (top 3)) [] [] (He.ga K "middle_span") fd
  g_l_between : mg "_law_between" = some (.ref (He.ga K "_law_between"))
  d_l_between : ∃ fd, FunD K "_law_between" "_law_between" (defArgs (top 7)) (defBody (top 7)) (defScope (top 7)) [] [] (He.ga K "_law_between") fd
  g_l_same : mg "_law_same" = some (.ref (He.ga K "_law_same"))
  d_l_same : ∃ fd, FunD K "_law_same" "_law_same" (defArgs (top 15)) (defBody (top 15)) (defScope (top 15)) [] [] (He.ga K "_law_same") fd
  g_l_estimates : mg "_law_estimates" = some (.ref (He.ga K "_law_estimates"))
  d_l_estimates : ∃ fd, FunD K "_law_estimates" "_law_estimates" (defArgs (top 9)) (defBody (top 9)) (defScope (top 9)) [] [] (He.ga K "_law_estimates") fd
  g_l_far : mg "_law_far" = some (.ref (He.ga K "_law_far"))
  d_l_far : ∃ fd, FunD K "_law_far" "_law_far" (defArgs (top 10)) (defBody (top 10)) (defScope (top 10)) [] [] (He.ga K "_law_far") fd
  g_l_moved : mg "_law_moved" = some (.ref (He.ga K "_law_moved"))
  d_l_moved : ∃ fd, FunD K "_law_moved" "_law_moved" (defArgs (top 11)) (defBody (top 11)) (defScope (top 11)) [] [] (He.ga K "_law_moved") fd
  g_law : mg "law" = some (.ref (He.ga K "law"))
  d_law : ∃ fd, FunD K "law" "law" (defArgs (top 16)) (defBody (top 16)) (defScope (top 16)) [] [] (He.ga K "law") fd
  b_abs : mg "abs" = none
  b_bool : mg "bool" = none
  b_int : mg "int" = none
  b_isinstance : mg "isinstance" = none
  b_len : mg "len" = none
  b_list : mg "list" = none
  b_max : mg "max" = none
  b_min : mg "min" = none
  b_range : mg "range" = none
  b_sorted : mg "sorted" = none
  b_sum : mg "sum" = none
  b_tuple : mg "tuple" = none
abbrev s_cost_of : Stmt := top 1
abbrev nm_cost_of : List Str := ["estimates", "value", "low", "high", "weight"]
theorem sc_cost_of : FnScope nm_cost_of ["estimates", "value"] (defScope s_cost_of) := sc_mk rfl rfl rfl (by decide +kernel) rfl (by decide +kernel) (by decide +kernel)
theorem ok_cost_of {P : Program} {w : World} {K : Frg} {mg : Str → Option Value} (T : Tx K mg)  : OkD P w K mg 1 "cost_of" ["estimates", "value"] m_cost_of := by
  have sc := sc_cost_of
  refine mkD (N := nm_cost_of) (g := cRet (cTrim (cCB bSum (aCons (cComp (iE (cV 0)) (gT 3 (gCons (gN 2) (gCons (gN 3) (gCons (gN 4) (gNil))))) (cYes) (cBin oMul (cV 4) (cCB bMax3 (aCons (cBin oSub (cV 2) (cV 1)) (aCons (cBin oSub (cV 1) (cV 3)) (aCons (cK (.int 0)) (aNil)))))) [2, 3, 4]) (aNil))))) T.d_cost_of T.g_cost_of sc (fun _ _ _ _ _ _ us hl => match us, hl with | [_, _], _ => rfl) fun base cdv A outer s H E hr => ?_
  exact fss_one (fs_ret (fe_trim (fe_callB (f_sum rfl) (by rfl) T.b_sum (by decide +kernel) (fa_cons (fe_lc (own := [("low", 2), ("high", 3), ("weight", 4)]) rfl sc.nd (fi_seq (fv 0)) (blkOk_by (N := nm_cost_of) (sc := defScope s_cost_of) (by decide +kernel)) (fun _ _ _ _ _ => fg_tup rfl (fgs_cons (fg_name 2 sc.nd) (fgs_cons (fg_name 3 sc.nd) (fgs_cons (fg_name 4 sc.nd) (fgs_nil))))) (fun _ _ _ _ _ => fts_nil) (fun _ _ _ _ _ => fe_op f_mul (fv 4) (fe_callB (f_max3 rfl) (by rfl) T.b_max (by decide +kernel) (fa_cons (fe_op f_sub (fv 2) (fv 1)) (fa_cons (fe_op f_sub (fv 1) (fv 3)) (fa_cons (fe_int) (fa_nil))))))) (fa_nil)))))
abbrev s_repeated_bounds : Stmt := top 2
abbrev nm_repeated_bounds : List Str := ["estimates", "bounds", "low", "high", "weight"]
theorem sc_repeated_bounds : FnScope nm_repeated_bounds ["estimates"] (defScope s_repeated_bounds) := sc_mk rfl rfl rfl (by decide +kernel) rfl (by decide +kernel) (by decide +kernel)
theorem ok_repeated_bounds {P : Program} {w : World} {K : Frg} {mg : Str → Option Value} (T : Tx K mg)  : OkD P w K mg 1 "repeated_bounds" ["estimates"] m_repeated_bounds := by
  have sc := sc_repeated_bounds
  refine mkD (N := nm_repeated_bounds) (g := cSeq (cSet 1 (cLst (aNil)))
      (cSeq (cFor (iE (cV 0)) (gT 3 (gCons (gN 2) (gCons (gN 3) (gCons (gN 4) (gNil))))) (cDrop (cTrim (cMt mExtend (cV 1) (aCons (cBin oMul (cLst (aCons (cV 2) (aCons (cV 3) (aNil)))) (cV 4)) (aNil))))) [2, 3, 4])
      (cRet (cCB bSortI (aCons (cV 1) (aNil)))))) T.d_repeated_bounds T.g_repeated_bounds sc (fun _ _ _ _ _ _ us hl => match us, hl with | [_], _ => rfl) fun base cdv A outer s H E hr => ?_
  exact fss_cons (fs_set 1 (fe_lst (fa_nil)) sc.nd)
      (fss_cons (fs_for [2, 3, 4] PassesOwn.never rfl (fi_seq (fv 0)) (fg_tup rfl (fgs_cons (fg_name 2 sc.nd) (fgs_cons (fg_name 3 sc.nd) (fgs_cons (fg_name 4 sc.nd) (fgs_nil))))) (fss_one (fs_expr (fe_trim (fe_mt PySem.F.slot_list_extend PySem.F.type_list_extend m_extend (fv 1) (fa_cons (fe_op f_mul (fe_lst (fa_cons (fv 2) (fa_cons (fv 3) (fa_nil)))) (fv 4)) (fa_nil)))))))
      (fss_one (fs_ret (fe_callB f_sortI (by rfl) T.b_sorted (by decide +kernel) (fa_cons (fv 1) (fa_nil))))))
abbrev s_l_source : Stmt := top 5
abbrev nm_l_source : List Str := ["_law_script", "_law_place"]
theorem sc_l_source : FnScope nm_l_source ["_law_script", "_law_place"] (defScope s_l_source) := sc_mk rfl rfl rfl (by decide +kernel) rfl (by decide +kernel) (by decide +kernel)
theorem ok_l_source {P : Program} {w : World} {K : Frg} {mg : Str → Option Value} (T : Tx K mg)  : OkD P w K mg 1 "_law_source" ["_law_script", "_law_place"] m_l_source := by
  have sc := sc_l_source
  refine mkD (N := nm_l_source) (g := cSeq (cIfS (cB (cBin oLt (cV 1) (cCB bLen (aCons (cV 0) (aNil))))) (cRet (cLst (aCons (cCB bAbs (aCons (cBin oIx (cV 0) (cV 1)) (aNil))) (aCons (cV 1) (aNil))))) (cNx))
      (cSeq (cIfS (cB (cBin oEq (cCB bLen (aCons (cV 0) (aNil))) (cK (.int 0)))) (cRet (cLst (aCons (cBin oAdd (cBin oMul (cK (.int 1009)) (cV 1)) (cK (.int 17))) (aCons (cV 1) (aNil))))) (cNx))
      (cRet (cLst (aCons (cBin oAdd (cBin oAdd (cBin oMul (cK (.int 31)) (cCB bAbs (aCons (cBin oIx (cV 0) (cBin oMod (cCB bInt (aCons (cV 1) (aNil))) (cCB bLen (aCons (cV 0) (aNil))))) (aNil)))) (cBin oMul (cK (.int 1009)) (cV 1))) (cK (.int 17))) (aCons (cV 1) (aNil))))))) T.d_l_source T.g_l_source sc (fun _ _ _ _ _ _ us hl => match us, hl with | [_, _], _ => rfl) fun base cdv A outer s H E hr => ?_
  exact fss_cons (fs_if (fb_cmp f_lt (fv 1) (fe_callB f_len (by rfl) T.b_len (by decide +kernel) (fa_cons (fv 0) (fa_nil))) (nomark _)) (fss_one (fs_ret (fe_lst (fa_cons (fe_callB f_abs (by rfl) T.b_abs (by decide +kernel) (fa_cons (fe_ix (fv 0) (fv 1)) (fa_nil))) (fa_cons (fv 1) (fa_nil)))))) (fss_nil))
      (fss_cons (fs_if (fb_cmp (f_eq hr.units) (fe_callB f_len (by rfl) T.b_len (by decide +kernel) (fa_cons (fv 0) (fa_nil))) (fe_int) (nomark _)) (fss_one (fs_ret (fe_lst (fa_cons (fe_op f_add (fe_op f_mul (fe_int) (fv 1)) (fe_int)) (fa_cons (fv 1) (fa_nil)))))) (fss_nil))
      (fss_one (fs_ret (fe_lst (fa_cons (fe_op f_add (fe_op f_add (fe_op f_mul (fe_int) (fe_callB f_abs (by rfl) T.b_abs (by decide +kernel) (fa_cons (fe_ix (fv 0) (fe_op f_mod (fe_callTy f_int (by rfl) T.b_int (by decide +kernel) (fa_cons (fv 1) (fa_nil))) (fe_callB f_len (by rfl) T.b_len (by decide +kernel) (fa_cons (fv 0) (fa_nil))))) (fa_nil)))) (fe_op f_mul (fe_int) (fv 1))) (fe_int)) (fa_cons (fv 1) (fa_nil)))))))
abbrev s_l_draw : Stmt := top 6
abbrev nm_l_draw : List Str := ["_law_source_here", "_law_size", "_law_cell", "_law_mixed"]
theorem sc_l_draw : FnScope nm_l_draw ["_law_source_here", "_law_size"] (defScope s_l_draw) := sc_mk rfl rfl rfl (by decide +kernel) rfl (by decide +kernel) (by decide +kernel)
theorem ok_l_draw {P : Program} {w : World} {K : Frg} {mg : Str → Option Value} (T : Tx K mg)  : OkD P w K mg 1 "_law_draw" ["_law_source_here", "_law_size"] m_l_draw := by
  have sc := sc_l_draw
  refine mkD (N := nm_l_draw) (g := cSeq (cSet 2 (cBin oIx (cV 0) (cK (.int 0))))
      (cSeq (cIfS (cB (cBin oGe (cV 2) (cBin oPow (cK (.int 10)) (cK (.int 18))))) (cSeq (cSub (cV 0) (cK (.int 0)) (cBin oDiv (cV 2) (cV 1)))
      (cRet (cBin oMod (cCB bInt (aCons (cV 2) (aNil))) (cV 1)))) (cNx))
      (cSeq (cSub (cV 0) (cK (.int 1)) (cBin oAdd (cBin oIx (cV 0) (cK (.int 1))) (cK (.int 1))))
      (cSeq (cSet 3 (cBin oMod (cCB bInt (aCons (cBin oAdd (cBin oAdd (cV 2) (cBin oMul (cK (.int 7919)) (cBin oIx (cV 0) (cK (.int 1))))) (cK (.int 13))) (aNil))) (cK (.int 2147483647))))
      (cSeq (cSet 3 (cBin oMod (cCB bInt (aCons (cBin oMul (cV 3) (cBin oAdd (cV 3) (cK (.int 48271)))) (aNil))) (cK (.int 2147483629))))
      (cSeq (cSet 3 (cBin oMod (cCB bInt (aCons (cBin oAdd (cBin oMul (cV 3) (cBin oAdd (cV 3) (cK (.int 69621)))) (cBin oMul (cK (.int 31)) (cBin oIx (cV 0) (cK (.int 1))))) (aNil))) (cK (.int 2147483647))))
      (cRet (cBin oMod (cCB bInt (aCons (cBin oDiv (cV 3) (cK (.int 9))) (aNil))) (cV 1))))))))) T.d_l_draw T.g_l_draw sc (fun _ _ _ _ _ _ us hl => match us, hl with | [_, _], _ => rfl) fun base cdv A outer s H E hr => ?_
  exact fss_cons (fs_set 2 (fe_ix (fv 0) (fe_int)) sc.nd)
      (fss_cons (fs_if (fb_cmp f_ge (fv 2) (fe_op f_pow (fe_int) (fe_int)) (nomark _)) (fss_cons (fs_sub (fe_op f_div (fv 2) (fv 1)) (fv 0) (fe_int))
      (fss_one (fs_ret (fe_op f_mod (fe_callTy f_int (by rfl) T.b_int (by decide +kernel) (fa_cons (fv 2) (fa_nil))) (fv 1))))) (fss_nil))
      (fss_cons (fs_sub (fe_op f_add (fe_ix (fv 0) (fe_int)) (fe_int)) (fv 0) (fe_int))
      (fss_cons (fs_set 3 (fe_op f_mod (fe_callTy f_int (by rfl) T.b_int (by decide +kernel) (fa_cons (fe_op f_add (fe_op f_add (fv 2) (fe_op f_mul (fe_int) (fe_ix (fv 0) (fe_int)))) (fe_int)) (fa_nil))) (fe_int)) sc.nd)
      (fss_cons (fs_set 3 (fe_op f_mod (fe_callTy f_int (by rfl) T.b_int (by decide +kernel) (fa_cons (fe_op f_mul (fv 3) (fe_op f_add (fv 3) (fe_int))) (fa_nil))) (fe_int)) sc.nd)
      (fss_cons (fs_set 3 (fe_op f_mod (fe_callTy f_int (by rfl) T.b_int (by decide +kernel) (fa_cons (fe_op f_add (fe_op f_mul (fv 3) (fe_op f_add (fv 3) (fe_int))) (fe_op f_mul (fe_int) (fe_ix (fv 0) (fe_int)))) (fa_nil))) (fe_int)) sc.nd)
      (fss_one (fs_ret (fe_op f_mod (fe_callTy f_int (by rfl) T.b_int (by decide +kernel) (fa_cons (fe_op f_div (fv 3) (fe_int)) (fa_nil))) (fv 1)))))))))
abbrev s_l_whole : Stmt := top 8
abbrev nm_l_whole : List Str := ["_law_actual"]
theorem sc_l_whole : FnScope nm_l_whole ["_law_actual"] (defScope s_l_whole) := sc_mk rfl rfl rfl (by decide +kernel) rfl (by decide +kernel) (by decide +kernel)
theorem ok_l_whole {P : Program} {w : World} {K : Frg} {mg : Str → Option Value} (T : Tx K mg)  : OkD P w K mg 1 "_law_whole" ["_law_actual"] m_l_whole := by
  have sc := sc_l_whole
  refine mkD (N := nm_l_whole) (g := cRet (cAndV (cCB bIsi (aCons (cV 0) (aCons (cK (.ty "int")) (aNil)))) (cBV (cNot (cB (cCB bIsi (aCons (cV 0) (aCons (cK (.ty "bool")) (aNil))))))))) T.d_l_whole T.g_l_whole sc (fun _ _ _ _ _ _ us hl => match us, hl with | [_], _ => rfl) fun base cdv A outer s H E hr => ?_
  exact fss_one (fs_ret (fe_and (fe_callB f_isi (by rfl) T.b_isinstance (by decide +kernel) (fa_cons (fv 0) (fa_cons (fe_ty (by rfl) T.b_int (by decide +kernel) rfl) (fa_nil)))) (fe_one (fe_not (fe_callB f_isi (by rfl) T.b_isinstance (by decide +kernel) (fa_cons (fv 0) (fa_cons (fe_ty (by rfl) T.b_bool (by decide +kernel) rfl) (fa_nil))))))))
abbrev s_l_marks : Stmt := top 12
abbrev nm_l_marks : List Str := ["_law_rows", "_law_marks_here", "_law_row"]
theorem sc_l_marks : FnScope nm_l_marks ["_law_rows"] (defScope s_l_marks) := sc_mk rfl rfl rfl (by decide +kernel) rfl (by decide +kernel) (by decide +kernel)
theorem ok_l_marks {P : Program} {w : World} {K : Frg} {mg : Str → Option Value} (T : Tx K mg)  : OkD P w K mg 1 "_law_marks" ["_law_rows"] m_l_marks := by
  have sc := sc_l_marks
  refine mkD (N := nm_l_marks) (g := cSeq (cSet 1 (cLst (aNil)))
      (cSeq (cFor (iE (cV 0)) (gN 2) (cDrop (cTrim (cMt mExtend (cV 1) (aCons (cLst (aCons (cBin oSub (cBin oIx (cV 2) (cK (.int 0))) (cK (.int 1))) (aCons (cBin oIx (cV 2) (cK (.int 0))) (aCons (cBin oIx (cV 2) (cK (.int 1))) (aCons (cBin oAdd (cBin oIx (cV 2) (cK (.int 1))) (cK (.int 1))) (aNil)))))) (aNil))))) [2])
      (cRet (cCB bSortI (aCons (cV 1) (aNil)))))) T.d_l_marks T.g_l_marks sc (fun _ _ _ _ _ _ us hl => match us, hl with | [_], _ => rfl) fun base cdv A outer s H E hr => ?_
  exact fss_cons (fs_set 1 (fe_lst (fa_nil)) sc.nd)
      (fss_cons (fs_for [2] PassesOwn.never rfl (fi_seq (fv 0)) (fg_name 2 sc.nd) (fss_one (fs_expr (fe_trim (fe_mt PySem.F.slot_list_extend PySem.F.type_list_extend m_extend (fv 1) (fa_cons (fe_lst (fa_cons (fe_op f_sub (fe_ix (fv 2) (fe_int)) (fe_int)) (fa_cons (fe_ix (fv 2) (fe_int)) (fa_cons (fe_ix (fv 2) (fe_int)) (fa_cons (fe_op f_add (fe_ix (fv 2) (fe_int)) (fe_int)) (fa_nil)))))) (fa_nil)))))))
      (fss_one (fs_ret (fe_callB f_sortI (by rfl) T.b_sorted (by decide +kernel) (fa_cons (fv 1) (fa_nil))))))
abbrev s_l_cost : Stmt := top 13
abbrev nm_l_cost : List Str := ["_law_rows", "_law_value", "_law_row"]
theorem sc_l_cost : FnScope nm_l_cost ["_law_rows", "_law_value"] (defScope s_l_cost) := sc_mk rfl rfl rfl (by decide +kernel) rfl (by decide +kernel) (by decide +kernel)
theorem ok_l_cost {P : Program} {w : World} {K : Frg} {mg : Str → Option Value} (T : Tx K mg)  : OkD P w K mg 1 "_law_cost" ["_law_rows", "_law_value"] m_l_cost := by
  have sc := sc_l_cost
  refine mkD (N := nm_l_cost) (g := cRet (cTrim (cCB bSum (aCons (cComp (iE (cV 0)) (gN 2) (cYes) (cBin oMul (cBin oIx (cV 2) (cK (.int 2))) (cCB bMax3 (aCons (cBin oSub (cBin oIx (cV 2) (cK (.int 0))) (cV 1)) (aCons (cBin oSub (cV 1) (cBin oIx (cV 2) (cK (.int 1)))) (aCons (cK (.int 0)) (aNil)))))) [2]) (aNil))))) T.d_l_cost T.g_l_cost sc (fun _ _ _ _ _ _ us hl => match us, hl with | [_, _], _ => rfl) fun base cdv A outer s H E hr => ?_
  exact fss_one (fs_ret (fe_trim (fe_callB (f_sum rfl) (by rfl) T.b_sum (by decide +kernel) (fa_cons (fe_lc (own := [("_law_row", 2)]) rfl sc.nd (fi_seq (fv 0)) (blkOk_by (N := nm_l_cost) (sc := defScope s_l_cost) (by decide +kernel)) (fun _ _ _ _ _ => fg_name 2 sc.nd) (fun _ _ _ _ _ => fts_nil) (fun _ _ _ _ _ => fe_op f_mul (fe_ix (fv 2) (fe_int)) (fe_callB (f_max3 rfl) (by rfl) T.b_max (by decide +kernel) (fa_cons (fe_op f_sub (fe_ix (fv 2) (fe_int)) (fv 1)) (fa_cons (fe_op f_sub (fv 1) (fe_ix (fv 2) (fe_int))) (fa_cons (fe_int) (fa_nil))))))) (fa_nil)))))
abbrev s_l_bounds : Stmt := top 14
abbrev nm_l_bounds : List Str := ["_law_rows", "_law_bounds_here", "_law_row"]
theorem sc_l_bounds : FnScope nm_l_bounds ["_law_rows"] (defScope s_l_bounds) := sc_mk rfl rfl rfl (by decide +kernel) rfl (by decide +kernel) (by decide +kernel)
theorem ok_l_bounds {P : Program} {w : World} {K : Frg} {mg : Str → Option Value} (T : Tx K mg)  : OkD P w K mg 1 "_law_bounds" ["_law_rows"] m_l_bounds := by
  have sc := sc_l_bounds
  refine mkD (N := nm_l_bounds) (g := cSeq (cSet 1 (cLst (aNil)))
      (cSeq (cFor (iE (cV 0)) (gN 2) (cDrop (cTrim (cMt mExtend (cV 1) (aCons (cBin oMul (cLst (aCons (cBin oIx (cV 2) (cK (.int 0))) (aCons (cBin oIx (cV 2) (cK (.int 1))) (aNil)))) (cBin oIx (cV 2) (cK (.int 2)))) (aNil))))) [2])
      (cRet (cCB bSortI (aCons (cV 1) (aNil)))))) T.d_l_bounds T.g_l_bounds sc (fun _ _ _ _ _ _ us hl => match us, hl with | [_], _ => rfl) fun base cdv A outer s H E hr => ?_
  exact fss_cons (fs_set 1 (fe_lst (fa_nil)) sc.nd)
      (fss_cons (fs_for [2] PassesOwn.never rfl (fi_seq (fv 0)) (fg_name 2 sc.nd) (fss_one (fs_expr (fe_trim (fe_mt PySem.F.slot_list_extend PySem.F.type_list_extend m_extend (fv 1) (fa_cons (fe_op f_mul (fe_lst (fa_cons (fe_ix (fv 2) (fe_int)) (fa_cons (fe_ix (fv 2) (fe_int)) (fa_nil)))) (fe_ix (fv 2) (fe_int))) (fa_nil)))))))
      (fss_one (fs_ret (fe_callB f_sortI (by rfl) T.b_sorted (by decide +kernel) (fa_cons (fv 1) (fa_nil))))))
abbrev s_middle_span : Stmt := top 3
abbrev nm_middle_span : List Str := ["estimates", "bounds", "middle", "low", "high"]
theorem sc_middle_span : FnScope nm_middle_span ["estimates"] (defScope s_middle_span) := sc_mk rfl rfl rfl (by decide +kernel) rfl (by decide +kernel) (by decide +kernel)
theorem ok_middle_span {P : Program} {w : World} {K : Frg} {mg : Str → Option Value} (T : Tx K mg) (h_cost_of : OkD P w K mg 1 "cost_of" ["estimates", "value"] m_cost_of) (h_repeated_bounds : OkD P w K mg 1 "repeated_bounds" ["estimates"] m_repeated_bounds) : OkD P w K mg 2 "middle_span" ["estimates"] m_middle_span := by
  have sc := sc_middle_span
  refine mkD (N := nm_middle_span) (g := cSeq (cSet 1 (cCallP m_repeated_bounds [] 1 (aCons (cV 0) (aNil))))
      (cSeq (cSet 2 (cBin oDiv (cCB bLen (aCons (cV 1) (aNil))) (cK (.int 2))))
      (cSeq (cSet 3 (cBin oIx (cV 1) (cBin oSub (cV 2) (cK (.int 1)))))
      (cSeq (cSet 4 (cBin oIx (cV 1) (cV 2)))
      (cRet (cTup (aCons (cCallP m_cost_of [] 2 (aCons (cV 0) (aCons (cV 3) (aNil)))) (aCons (cV 3) (aCons (cV 4) (aNil)))))))))) T.d_middle_span T.g_middle_span sc (fun _ _ _ _ _ _ us hl => match us, hl with | [_], _ => rfl) fun base cdv A outer s H E hr => ?_
  exact fss_cons (fs_set 1 (fe_cP h_repeated_bounds hr (fa_cons (fv 0) (fa_nil))) sc.nd)
      (fss_cons (fs_set 2 (fe_op f_div (fe_callB f_len (by rfl) T.b_len (by decide +kernel) (fa_cons (fv 1) (fa_nil))) (fe_int)) sc.nd)
      (fss_cons (fs_set 3 (fe_ix (fv 1) (fe_op f_sub (fv 2) (fe_int))) sc.nd)
      (fss_cons (fs_set 4 (fe_ix (fv 1) (fv 2)) sc.nd)
      (fss_one (fs_ret (fe_tup (fa_cons (fe_cP h_cost_of hr (fa_cons (fv 0) (fa_cons (fv 3) (fa_nil)))) (fa_cons (fv 3) (fa_cons (fv 4) (fa_nil))))))))))
abbrev s_l_between : Stmt := top 7
abbrev nm_l_between : List Str := ["_law_source_here", "_law_least", "_law_most"]
theorem sc_l_between : FnScope nm_l_between ["_law_source_here", "_law_least", "_law_most"] (defScope s_l_between) := sc_mk rfl rfl rfl (by decide +kernel) rfl (by decide +kernel) (by decide +kernel)
theorem ok_l_between {P : Program} {w : World} {K : Frg} {mg : Str → Option Value} (T : Tx K mg) (h_l_draw : OkD P w K mg 1 "_law_draw" ["_law_source_here", "_law_size"] m_l_draw) : OkD P w K mg 2 "_law_between" ["_law_source_here", "_law_least", "_law_most"] m_l_between := by
  have sc := sc_l_between
  refine mkD (N := nm_l_between) (g := cRet (cBin oAdd (cV 1) (cCallS m_l_draw [] 2 (aCons (cV 0) (aCons (cBin oAdd (cBin oSub (cV 2) (cV 1)) (cK (.int 1))) (aNil)))))) T.d_l_between T.g_l_between sc (fun _ _ _ _ _ _ us hl => match us, hl with | [_, _, _], _ => rfl) fun base cdv A outer s H E hr => ?_
  exact fss_one (fs_ret (fe_op f_add (fv 1) (fe_cS h_l_draw hr (fa_cons (fv 0) (fa_cons (fe_op f_add (fe_op f_sub (fv 2) (fv 1)) (fe_int)) (fa_nil))))))
abbrev s_l_same : Stmt := top 15
abbrev nm_l_same : List Str := ["_law_told", "_law_due", "_law_part"]
theorem sc_l_same : FnScope nm_l_same ["_law_told", "_law_due"] (defScope s_l_same) := sc_mk rfl rfl rfl (by decide +kernel) rfl (by decide +kernel) (by decide +kernel)
theorem ok_l_same {P : Program} {w : World} {K : Frg} {mg : Str → Option Value} (T : Tx K mg) (h_l_whole : OkD P w K mg 1 "_law_whole" ["_law_actual"] m_l_whole) : OkD P w K mg 2 "_law_same" ["_law_told", "_law_due"] m_l_same := by
  have sc := sc_l_same
  refine mkD (N := nm_l_same) (g := cSeq (cIfS (cOr (cNot (cB (cCB bIsi (aCons (cV 0) (aCons (cK (.ty "tuple")) (aNil)))))) (cB (cBin oNe (cCB bLen (aCons (cV 0) (aNil))) (cK (.int 3))))) (cRet (cK (.bl false))) (cNx))
      (cSeq (cFor (iE (cV 0)) (gN 2) (cIfS (cNot (cB (cCallP m_l_whole [] 1 (aCons (cV 2) (aNil))))) (cRet (cK (.bl false))) (cNx)) [2])
      (cRet (cBin oEq (cV 0) (cV 1))))) T.d_l_same T.g_l_same sc (fun _ _ _ _ _ _ us hl => match us, hl with | [_, _], _ => rfl) fun base cdv A outer s H E hr => ?_
  exact fss_cons (fs_if (fb_w (fw_or (fb_not (fb_val (fe_callB f_isi (by rfl) T.b_isinstance (by decide +kernel) (fa_cons (fv 0) (fa_cons (fe_ty (by rfl) T.b_tuple (by decide +kernel) rfl) (fa_nil)))))) (fw_or1 (fb_cmp (f_ne hr.units) (fe_callB f_len (by rfl) T.b_len (by decide +kernel) (fa_cons (fv 0) (fa_nil))) (fe_int) (nomark _))))) (fss_one (fs_ret (fe_bl))) (fss_nil))
      (fss_cons (fs_for [2] PassesOwn.never rfl (fi_seq (fv 0)) (fg_name 2 sc.nd) (fss_one (fs_if (fb_not (fb_val (fe_cP h_l_whole hr (fa_cons (fv 2) (fa_nil))))) (fss_one (fs_ret (fe_bl))) (fss_nil))))
      (fss_one (fs_ret (fe_cmp (f_eq hr.units) (fv 0) (fv 1) (nomark _)))))
abbrev s_l_estimates : Stmt := top 9
abbrev nm_l_estimates : List Str := ["_law_source_here", "_law_count", "_law_most", "_law_found", "_law_index", "_law_shape", "_law_low", "_law_mass", "_law_other", "_law_wide"]
theorem sc_l_estimates : FnScope nm_l_estimates ["_law_source_here", "_law_count", "_law_most"] (defScope s_l_estimates) := sc_mk rfl rfl rfl (by decide +kernel) rfl (by decide +kernel) (by decide +kernel)
theorem ok_l_estimates {P : Program} {w : World} {K : Frg} {mg : Str → Option Value} (T : Tx K mg) (h_l_between : OkD P w K mg 2 "_law_between" ["_law_source_here", "_law_least", "_law_most"] m_l_between) (h_l_draw : OkD P w K mg 1 "_law_draw" ["_law_source_here", "_law_size"] m_l_draw) : OkD P w K mg 3 "_law_estimates" ["_law_source_here", "_law_count", "_law_most"] m_l_estimates := by
  have sc := sc_l_estimates
  refine mkD (N := nm_l_estimates) (g := cSeq (cSet 3 (cLst (aNil)))
      (cSeq (cFor (iRange1 (aCons (cV 1) (aNil))) (gN 4) (cSeq (cSet 5 (cCallS m_l_draw [] 2 (aCons (cV 0) (aCons (cK (.int 4)) (aNil)))))
      (cSeq (cSet 6 (cCallS m_l_between [] 3 (aCons (cV 0) (aCons (cBin oSub (cK (.int 0)) (cK (.int 6))) (aCons (cK (.int 9)) (aNil))))))
      (cSeq (cSet 7 (cBin oAdd (cK (.int 1)) (cCallS m_l_draw [] 2 (aCons (cV 0) (aCons (cV 2) (aNil))))))
      (cSeq (cIfS (cB (cBin oGt (cV 4) (cK (.int 0)))) (cSeq (cSet 8 (cBin oIx (cV 3) (cCallS m_l_draw [] 2 (aCons (cV 0) (aCons (cV 4) (aNil))))))
      (cSeq (cIfS (cOr (cB (cBin oEq (cV 5) (cK (.int 1)))) (cB (cBin oEq (cV 5) (cK (.int 2))))) (cSet 7 (cBin oIx (cV 8) (cK (.int 2)))) (cNx))
      (cSeq (cIfS (cB (cBin oEq (cV 5) (cK (.int 2)))) (cSet 6 (cBin oAdd (cBin oIx (cV 8) (cK (.int 1))) (cK (.int 1)))) (cNx))
      (cIfS (cB (cBin oEq (cV 5) (cK (.int 3)))) (cSet 6 (cBin oIx (cV 8) (cK (.int 0)))) (cNx))))) (cNx))
      (cSeq (cIfS (cB (cBin oGt (cV 6) (cK (.int 12)))) (cSet 6 (cBin oSub (cV 6) (cK (.int 18)))) (cNx))
      (cSeq (cSet 9 (cCallS m_l_draw [] 2 (aCons (cV 0) (aCons (cBin oAdd (cK (.int 1)) (cCallS m_l_draw [] 2 (aCons (cV 0) (aCons (cK (.int 6)) (aNil))))) (aNil)))))
      (cDrop (cMt mAppend (cV 3) (aCons (cTup (aCons (cV 6) (aCons (cBin oAdd (cV 6) (cV 9)) (aCons (cV 7) (aNil))))) (aNil)))))))))) [4, 5, 6, 7, 8, 9])
      (cRet (cV 3)))) T.d_l_estimates T.g_l_estimates sc (fun _ _ _ _ _ _ us hl => match us, hl with | [_, _, _], _ => rfl) fun base cdv A outer s H E hr => ?_
  exact fss_cons (fs_set 3 (fe_lst (fa_nil)) sc.nd)
      (fss_cons (fs_for [4, 5, 6, 7, 8, 9] PassesOwn.never rfl (fi_range1 (by rfl) T.b_range (fa_cons (fv 1) (fa_nil))) (fg_name 4 sc.nd) (fss_cons (fs_set 5 (fe_cS h_l_draw (hr.mono (by decide)) (fa_cons (fv 0) (fa_cons (fe_int) (fa_nil)))) sc.nd)
      (fss_cons (fs_set 6 (fe_cS h_l_between hr (fa_cons (fv 0) (fa_cons (fe_op f_sub (fe_int) (fe_int)) (fa_cons (fe_int) (fa_nil))))) sc.nd)
      (fss_cons (fs_set 7 (fe_op f_add (fe_int) (fe_cS h_l_draw (hr.mono (by decide)) (fa_cons (fv 0) (fa_cons (fv 2) (fa_nil))))) sc.nd)
      (fss_cons (fs_if (fb_cmp f_gt (fv 4) (fe_int) (nomark _)) (fss_cons (fs_set 8 (fe_ix (fv 3) (fe_cS h_l_draw (hr.mono (by decide)) (fa_cons (fv 0) (fa_cons (fv 4) (fa_nil))))) sc.nd)
      (fss_cons (fs_if (fb_w (fw_or (fb_cmp (f_eq hr.units) (fv 5) (fe_int) (nomark _)) (fw_or1 (fb_cmp (f_eq hr.units) (fv 5) (fe_int) (nomark _))))) (fss_one (fs_set 7 (fe_ix (fv 8) (fe_int)) sc.nd)) (fss_nil))
      (fss_cons (fs_if (fb_cmp (f_eq hr.units) (fv 5) (fe_int) (nomark _)) (fss_one (fs_set 6 (fe_op f_add (fe_ix (fv 8) (fe_int)) (fe_int)) sc.nd)) (fss_nil))
      (fss_one (fs_if (fb_cmp (f_eq hr.units) (fv 5) (fe_int) (nomark _)) (fss_one (fs_set 6 (fe_ix (fv 8) (fe_int)) sc.nd)) (fss_nil)))))) (fss_nil))
      (fss_cons (fs_if (fb_cmp f_gt (fv 6) (fe_int) (nomark _)) (fss_one (fs_set 6 (fe_op f_sub (fv 6) (fe_int)) sc.nd)) (fss_nil))
      (fss_cons (fs_set 9 (fe_cS h_l_draw (hr.mono (by decide)) (fa_cons (fv 0) (fa_cons (fe_op f_add (fe_int) (fe_cS h_l_draw (hr.mono (by decide)) (fa_cons (fv 0) (fa_cons (fe_int) (fa_nil))))) (fa_nil)))) sc.nd)
      (fss_one (fs_expr (fe_mt PySem.F.slot_list_append PySem.F.type_list_append m_append (fv 3) (fa_cons (fe_tup (fa_cons (fv 6) (fa_cons (fe_op f_add (fv 6) (fv 9)) (fa_cons (fv 7) (fa_nil))))) (fa_nil))))))))))))
      (fss_one (fs_ret (fv 3))))
abbrev s_l_far : Stmt := top 10
abbrev nm_l_far : List Str := ["_law_source_here", "_law_shape"]
theorem sc_l_far : FnScope nm_l_far ["_law_source_here"] (defScope s_l_far) := sc_mk rfl rfl rfl (by decide +kernel) rfl (by decide +kernel) (by decide +kernel)
theorem ok_l_far {P : Program} {w : World} {K : Frg} {mg : Str → Option Value} (T : Tx K mg) (h_l_between : OkD P w K mg 2 "_law_between" ["_law_source_here", "_law_least", "_law_most"] m_l_between) (h_l_draw : OkD P w K mg 1 "_law_draw" ["_law_source_here", "_law_size"] m_l_draw) : OkD P w K mg 3 "_law_far" ["_law_source_here"] m_l_far := by
  have sc := sc_l_far
  refine mkD (N := nm_l_far) (g := cSeq (cSet 1 (cCallS m_l_draw [] 2 (aCons (cV 0) (aCons (cK (.int 4)) (aNil)))))
      (cSeq (cIfS (cB (cBin oEq (cV 1) (cK (.int 0)))) (cRet (cBin oSub (cK (.int 6)) (cBin oPow (cK (.int 10)) (cK (.int 9))))) (cNx))
      (cSeq (cIfS (cB (cBin oEq (cV 1) (cK (.int 1)))) (cRet (cBin oSub (cBin oPow (cK (.int 10)) (cK (.int 9))) (cK (.int 17)))) (cNx))
      (cRet (cCallS m_l_between [] 3 (aCons (cV 0) (aCons (cBin oSub (cK (.int 0)) (cBin oPow (cK (.int 10)) (cK (.int 8)))) (aCons (cBin oPow (cK (.int 10)) (cK (.int 8))) (aNil))))))))) T.d_l_far T.g_l_far sc (fun _ _ _ _ _ _ us hl => match us, hl with | [_], _ => rfl) fun base cdv A outer s H E hr => ?_
  exact fss_cons (fs_set 1 (fe_cS h_l_draw (hr.mono (by decide)) (fa_cons (fv 0) (fa_cons (fe_int) (fa_nil)))) sc.nd)
      (fss_cons (fs_if (fb_cmp (f_eq hr.units) (fv 1) (fe_int) (nomark _)) (fss_one (fs_ret (fe_op f_sub (fe_int) (fe_op f_pow (fe_int) (fe_int))))) (fss_nil))
      (fss_cons (fs_if (fb_cmp (f_eq hr.units) (fv 1) (fe_int) (nomark _)) (fss_one (fs_ret (fe_op f_sub (fe_op f_pow (fe_int) (fe_int)) (fe_int)))) (fss_nil))
      (fss_one (fs_ret (fe_cS h_l_between hr (fa_cons (fv 0) (fa_cons (fe_op f_sub (fe_int) (fe_op f_pow (fe_int) (fe_int))) (fa_cons (fe_op f_pow (fe_int) (fe_int)) (fa_nil)))))))))
abbrev s_l_moved : Stmt := top 11
abbrev nm_l_moved : List Str := ["_law_source_here", "_law_rows", "_law_shape", "_law_one", "_law_other", "_law_moves", "_law_moved_here", "_law_row", "_law_group"]
theorem sc_l_moved : FnScope nm_l_moved ["_law_source_here", "_law_rows"] (defScope s_l_moved) := sc_mk rfl rfl rfl (by decide +kernel) rfl (by decide +kernel) (by decide +kernel)
theorem ok_l_moved {P : Program} {w : World} {K : Frg} {mg : Str → Option Value} (T : Tx K mg) (h_l_draw : OkD P w K mg 1 "_law_draw" ["_law_source_here", "_law_size"] m_l_draw) (h_l_far : OkD P w K mg 3 "_law_far" ["_law_source_here"] m_l_far) : OkD P w K mg 4 "_law_moved" ["_law_source_here", "_law_rows"] m_l_moved := by
  have sc := sc_l_moved
  refine mkD (N := nm_l_moved) (g := cSeq (cSet 2 (cCallS m_l_draw [] 2 (aCons (cV 0) (aCons (cK (.int 4)) (aNil)))))
      (cSeq (cIfS (cB (cBin oGt (cV 2) (cK (.int 1)))) (cRet (cV 1)) (cNx))
      (cSeq (cSet 3 (cCallS m_l_far [] 1 (aCons (cV 0) (aNil))))
      (cSeq (cSet 4 (cV 3))
      (cSeq (cIfS (cB (cBin oEq (cV 2) (cK (.int 1)))) (cSet 4 (cCallS m_l_far [] 1 (aCons (cV 0) (aNil)))) (cNx))
      (cSeq (cSet 5 (cCB bSortI (aCons (cLst (aCons (cV 3) (aCons (cV 4) (aNil)))) (aNil))))
      (cSeq (cSet 6 (cLst (aNil)))
      (cSeq (cFor (iE (cV 1)) (gN 7) (cSeq (cSet 8 (cCallS m_l_draw [] 2 (aCons (cV 0) (aCons (cK (.int 3)) (aNil)))))
      (cDrop (cMt mAppend (cV 6) (aCons (cTup (aCons (cBin oAdd (cBin oIx (cV 7) (cK (.int 0))) (cBin oIx (cV 5) (cBin oDiv (cV 8) (cK (.int 2))))) (aCons (cBin oAdd (cBin oIx (cV 7) (cK (.int 1))) (cBin oIx (cV 5) (cCB bMin2 (aCons (cV 8) (aCons (cK (.int 1)) (aNil)))))) (aCons (cBin oIx (cV 7) (cK (.int 2))) (aNil))))) (aNil))))) [7, 8])
      (cRet (cV 6)))))))))) T.d_l_moved T.g_l_moved sc (fun _ _ _ _ _ _ us hl => match us, hl with | [_, _], _ => rfl) fun base cdv A outer s H E hr => ?_
  exact fss_cons (fs_set 2 (fe_cS h_l_draw (hr.mono (by decide)) (fa_cons (fv 0) (fa_cons (fe_int) (fa_nil)))) sc.nd)
      (fss_cons (fs_if (fb_cmp f_gt (fv 2) (fe_int) (nomark _)) (fss_one (fs_ret (fv 1))) (fss_nil))
      (fss_cons (fs_set 3 (fe_cS h_l_far hr (fa_cons (fv 0) (fa_nil))) sc.nd)
      (fss_cons (fs_set 4 (fv 3) sc.nd)
      (fss_cons (fs_if (fb_cmp (f_eq hr.units) (fv 2) (fe_int) (nomark _)) (fss_one (fs_set 4 (fe_cS h_l_far hr (fa_cons (fv 0) (fa_nil))) sc.nd)) (fss_nil))
      (fss_cons (fs_set 5 (fe_callB f_sortI (by rfl) T.b_sorted (by decide +kernel) (fa_cons (fe_lst (fa_cons (fv 3) (fa_cons (fv 4) (fa_nil)))) (fa_nil))) sc.nd)
      (fss_cons (fs_set 6 (fe_lst (fa_nil)) sc.nd)
      (fss_cons (fs_for [7, 8] PassesOwn.never rfl (fi_seq (fv 1)) (fg_name 7 sc.nd) (fss_cons (fs_set 8 (fe_cS h_l_draw (hr.mono (by decide)) (fa_cons (fv 0) (fa_cons (fe_int) (fa_nil)))) sc.nd)
      (fss_one (fs_expr (fe_mt PySem.F.slot_list_append PySem.F.type_list_append m_append (fv 6) (fa_cons (fe_tup (fa_cons (fe_op f_add (fe_ix (fv 7) (fe_int)) (fe_ix (fv 5) (fe_op f_div (fv 8) (fe_int)))) (fa_cons (fe_op f_add (fe_ix (fv 7) (fe_int)) (fe_ix (fv 5) (fe_callB (f_min2 rfl) (by rfl) T.b_min (by decide +kernel) (fa_cons (fv 8) (fa_cons (fe_int) (fa_nil)))))) (fa_cons (fe_ix (fv 7) (fe_int)) (fa_nil))))) (fa_nil)))))))
      (fss_one (fs_ret (fv 6))))))))))
abbrev s_law : Stmt := top 16
abbrev nm_law : List Str := ["_law_script", "_law_shaped", "_law_count", "_law_most", "_law_rows", "_law_handed", "_law_bounds_here", "_law_low", "_law_high", "_law_least", "_law_turn", "_law_values", "_law_move", "_law_value", "_law_cost_here"]
theorem sc_law : FnScope nm_law ["_law_script"] (defScope s_law) := sc_mk rfl rfl rfl (by decide +kernel) rfl (by decide +kernel) (by decide +kernel)
theorem ok_law {P : Program} {w : World} {K : Frg} {mg : Str → Option Value} (T : Tx K mg) (h_l_bounds : OkD P w K mg 1 "_law_bounds" ["_law_rows"] m_l_bounds) (h_l_cost : OkD P w K mg 1 "_law_cost" ["_law_rows", "_law_value"] m_l_cost) (h_l_draw : OkD P w K mg 1 "_law_draw" ["_law_source_here", "_law_size"] m_l_draw) (h_l_estimates : OkD P w K mg 3 "_law_estimates" ["_law_source_here", "_law_count", "_law_most"] m_l_estimates) (h_l_marks : OkD P w K mg 1 "_law_marks" ["_law_rows"] m_l_marks) (h_l_moved : OkD P w K mg 4 "_law_moved" ["_law_source_here", "_law_rows"] m_l_moved) (h_l_same : OkD P w K mg 2 "_law_same" ["_law_told", "_law_due"] m_l_same) (h_l_source : OkD P w K mg 1 "_law_source" ["_law_script", "_law_place"] m_l_source) (h_middle_span : OkD P w K mg 2 "middle_span" ["estimates"] m_middle_span) : OkD P w K mg 5 "law" ["_law_script"] m_law := by
  have sc := sc_law
  refine mkD (N := nm_law) (g := cSeq (cSet 1 (cCallN m_l_source [] 2 (aCons (cV 0) (aCons (cK (.int 0)) (aNil)))))
      (cSeq (cSet 2 (cBin oAdd (cK (.int 1)) (cCallS m_l_draw [] 2 (aCons (cV 1) (aCons (cK (.int 6)) (aNil))))))
      (cSeq (cIfS (cB (cBin oEq (cCallS m_l_draw [] 2 (aCons (cV 1) (aCons (cK (.int 8)) (aNil)))) (cK (.int 0)))) (cSet 2 (cBin oAdd (cK (.int 1)) (cCallS m_l_draw [] 2 (aCons (cV 1) (aCons (cK (.int 40)) (aNil)))))) (cNx))
      (cSeq (cSet 3 (cK (.int 4)))
      (cSeq (cIfS (cB (cBin oEq (cCallS m_l_draw [] 2 (aCons (cV 1) (aCons (cK (.int 4)) (aNil)))) (cK (.int 0)))) (cSet 3 (cK (.int 99))) (cNx))
      (cSeq (cSet 4 (cTrim (cCallT m_l_moved [] 2 (aCons (cCallN m_l_source [] 2 (aCons (cV 0) (aCons (cK (.int 2)) (aNil)))) (aCons (cTrim (cCallT m_l_estimates [] 3 (aCons (cCallN m_l_source [] 2 (aCons (cV 0) (aCons (cK (.int 1)) (aNil)))) (aCons (cV 2) (aCons (cV 3) (aNil)))))) (aNil))))))
      (cSeq (cSet 5 (cCB bListA (aCons (cV 4) (aNil))))
      (cSeq (cIfS (cB (cBin oEq (cCallS m_l_draw [] 2 (aCons (cV 1) (aCons (cK (.int 2)) (aNil)))) (cK (.int 1)))) (cSet 5 (cCB bTuple (aCons (cV 4) (aNil)))) (cNx))
      (cSeq (cSet 6 (cCallP m_l_bounds [] 1 (aCons (cV 4) (aNil))))
      (cSeq (cSet 7 (cBin oIx (cV 6) (cBin oSub (cBin oDiv (cCB bLen (aCons (cV 6) (aNil))) (cK (.int 2))) (cK (.int 1)))))
      (cSeq (cSet 8 (cBin oIx (cV 6) (cBin oDiv (cCB bLen (aCons (cV 6) (aNil))) (cK (.int 2)))))
      (cSeq (cSet 9 (cCallP m_l_cost [] 2 (aCons (cV 4) (aCons (cV 7) (aNil)))))
      (cSeq (cFor (iRange1 (aCons (cK (.int 2)) (aNil))) (gN 10) (cIfS (cOr (cNot (cB (cCallP m_l_same [] 2 (aCons (cCallP m_middle_span [] 1 (aCons (cV 5) (aNil))) (aCons (cTup (aCons (cV 9) (aCons (cV 7) (aCons (cV 8) (aNil))))) (aNil)))))) (cTrimB (cB (cBin oNe (cCB bListA (aCons (cV 5) (aNil))) (cV 4))))) (cRet (cK (.bl false))) (cNx)) [10])
      (cSeq (cSet 11 (cBin oAdd (cCallP m_l_marks [] 1 (aCons (cV 4) (aNil))) (cComp (iRange2 (aCons (cBin oSub (cK (.int 0)) (cK (.int 3))) (aCons (cK (.int 12)) (aNil)))) (gN 12) (cYes) (cBin oAdd (cV 7) (cV 12)) [12])))
      (cSeq (cFor (iE (cBin oAdd (cV 11) (cLst (aCons (cBin oDiv (cBin oAdd (cV 7) (cV 8)) (cK (.int 2))) (aCons (cBin oSub (cV 8) (cK (.int 1))) (aCons (cBin oAdd (cV 8) (cK (.int 1))) (aNil))))))) (gN 13) (cSeq (cSet 14 (cCallP m_l_cost [] 2 (aCons (cV 4) (aCons (cV 13) (aNil)))))
      (cIfS (cOr (cB (cBin oLt (cV 14) (cV 9))) (cB (cBin oNe (cBin oEq (cV 14) (cV 9)) (cAndV (cBin oLe (cV 7) (cV 13)) (cBin oLe (cV 13) (cV 8)))))) (cRet (cK (.bl false))) (cNx))) [13, 14])
      (cRet (cK (.bl true)))))))))))))))))) T.d_law T.g_law sc (fun _ _ _ _ _ _ us hl => match us, hl with | [_], _ => rfl) fun base cdv A outer s H E hr => ?_
  exact fss_cons (fs_set 1 (fe_cN h_l_source (hr.mono (by decide)) (fa_cons (fv 0) (fa_cons (fe_int) (fa_nil)))) sc.nd)
      (fss_cons (fs_set 2 (fe_op f_add (fe_int) (fe_cS h_l_draw (hr.mono (by decide)) (fa_cons (fv 1) (fa_cons (fe_int) (fa_nil))))) sc.nd)
      (fss_cons (fs_if (fb_cmp (f_eq hr.units) (fe_cS h_l_draw (hr.mono (by decide)) (fa_cons (fv 1) (fa_cons (fe_int) (fa_nil)))) (fe_int) (nomark _)) (fss_one (fs_set 2 (fe_op f_add (fe_int) (fe_cS h_l_draw (hr.mono (by decide)) (fa_cons (fv 1) (fa_cons (fe_int) (fa_nil))))) sc.nd)) (fss_nil))
      (fss_cons (fs_set 3 (fe_int) sc.nd)
      (fss_cons (fs_if (fb_cmp (f_eq hr.units) (fe_cS h_l_draw (hr.mono (by decide)) (fa_cons (fv 1) (fa_cons (fe_int) (fa_nil)))) (fe_int) (nomark _)) (fss_one (fs_set 3 (fe_int) sc.nd)) (fss_nil))
      (fss_cons (fs_set 4 (fe_trim (fe_cT h_l_moved hr (fa_cons (fe_cN h_l_source (hr.mono (by decide)) (fa_cons (fv 0) (fa_cons (fe_int) (fa_nil)))) (fa_cons (fe_trim (fe_cT h_l_estimates (hr.mono (by decide)) (fa_cons (fe_cN h_l_source (hr.mono (by decide)) (fa_cons (fv 0) (fa_cons (fe_int) (fa_nil)))) (fa_cons (fv 2) (fa_cons (fv 3) (fa_nil)))))) (fa_nil))))) sc.nd)
      (fss_cons (fs_set 5 (fe_callTy (f_listA rfl) (by rfl) T.b_list (by decide +kernel) (fa_cons (fv 4) (fa_nil))) sc.nd)
      (fss_cons (fs_if (fb_cmp (f_eq hr.units) (fe_cS h_l_draw (hr.mono (by decide)) (fa_cons (fv 1) (fa_cons (fe_int) (fa_nil)))) (fe_int) (nomark _)) (fss_one (fs_set 5 (fe_callTy f_tuple (by rfl) T.b_tuple (by decide +kernel) (fa_cons (fv 4) (fa_nil))) sc.nd)) (fss_nil))
      (fss_cons (fs_set 6 (fe_cP h_l_bounds (hr.mono (by decide)) (fa_cons (fv 4) (fa_nil))) sc.nd)
      (fss_cons (fs_set 7 (fe_ix (fv 6) (fe_op f_sub (fe_op f_div (fe_callB f_len (by rfl) T.b_len (by decide +kernel) (fa_cons (fv 6) (fa_nil))) (fe_int)) (fe_int))) sc.nd)
      (fss_cons (fs_set 8 (fe_ix (fv 6) (fe_op f_div (fe_callB f_len (by rfl) T.b_len (by decide +kernel) (fa_cons (fv 6) (fa_nil))) (fe_int))) sc.nd)
      (fss_cons (fs_set 9 (fe_cP h_l_cost (hr.mono (by decide)) (fa_cons (fv 4) (fa_cons (fv 7) (fa_nil)))) sc.nd)
      (fss_cons (fs_for [10] PassesOwn.never rfl (fi_range1 (by rfl) T.b_range (fa_cons (fe_int) (fa_nil))) (fg_name 10 sc.nd) (fss_one (fs_if (fb_w (fw_or (fb_not (fb_val (fe_cP h_l_same (hr.mono (by decide)) (fa_cons (fe_cP h_middle_span (hr.mono (by decide)) (fa_cons (fv 5) (fa_nil))) (fa_cons (fe_tup (fa_cons (fv 9) (fa_cons (fv 7) (fa_cons (fv 8) (fa_nil))))) (fa_nil)))))) (fw_or1 (fb_trim (fb_cmp (f_ne hr.units) (fe_callTy (f_listA rfl) (by rfl) T.b_list (by decide +kernel) (fa_cons (fv 5) (fa_nil))) (fv 4) (nomark _)))))) (fss_one (fs_ret (fe_bl))) (fss_nil))))
      (fss_cons (fs_set 11 (fe_op f_add (fe_cP h_l_marks (hr.mono (by decide)) (fa_cons (fv 4) (fa_nil))) (fe_lc (own := [("_law_move", 12)]) rfl sc.nd (fi_range2 (by rfl) T.b_range (fa_cons (fe_op f_sub (fe_int) (fe_int)) (fa_cons (fe_int) (fa_nil)))) (blkOk_by (N := nm_law) (sc := defScope s_law) (by decide +kernel)) (fun _ _ _ _ _ => fg_name 12 sc.nd) (fun _ _ _ _ _ => fts_nil) (fun _ _ _ _ _ => fe_op f_add (fv 7) (fv 12)))) sc.nd)
      (fss_cons (fs_for [13, 14] PassesOwn.never rfl (fi_seq (fe_op f_add (fv 11) (fe_lst (fa_cons (fe_op f_div (fe_op f_add (fv 7) (fv 8)) (fe_int)) (fa_cons (fe_op f_sub (fv 8) (fe_int)) (fa_cons (fe_op f_add (fv 8) (fe_int)) (fa_nil))))))) (fg_name 13 sc.nd) (fss_cons (fs_set 14 (fe_cP h_l_cost (hr.mono (by decide)) (fa_cons (fv 4) (fa_cons (fv 13) (fa_nil)))) sc.nd)
      (fss_one (fs_if (fb_w (fw_or (fb_cmp f_lt (fv 14) (fv 9) (nomark _)) (fw_or1 (fb_cmp (f_ne hr.units) (fe_cmp (f_eq hr.units) (fv 14) (fv 9) (nomark _)) (fe_and (fe_cmp f_le (fv 7) (fv 13) (nomark _)) (fe_one (fe_cmp f_le (fv 13) (fv 8) (nomark _)))) (nomark _))))) (fss_one (fs_ret (fe_bl))) (fss_nil)))))
      (fss_one (fs_ret (fe_bl)))))))))))))))))
end Lw
namespace Lw
open PySem PySem.Spec PyProof.Rows L2 FL
abbrev R3 := Int × Int × Int
def ab (x : Int) : Int := if x < 0 then -x else x
def sa (l : List Int) (v : Int) : Int := (l.map fun b => ab (b - v)).sum
def cost (rs : List R3) (v : Int) : Int := (rs.map fun r => r.2.2 * mx3 (r.1 - v) (v - r.2.1) 0).sum
def bn (r : R3) : List Int := (List.replicate r.2.2.toNat [r.1, r.2.1]).flatten
def bnds (rs : List R3) : List Int := rs.flatMap bn
def wd (rs : List R3) : Int := (rs.map fun r => r.2.2 * (r.2.1 - r.1)).sum
def Good (r : R3) : Prop := r.1 ≤ r.2.1 ∧ 1 ≤ r.2.2
theorem sa_nil (v : Int) : sa [] v = 0 := rfl
theorem sa_cons (b : Int) (l : List Int) (v : Int) : sa (b :: l) v = ab (b - v) + sa l v := by simp [sa]
theorem sa_app (l m : List Int) (v : Int) : sa (l ++ m) v = sa l v + sa m v := by simp [sa]
theorem sa_perm {l m : List Int} (h : l.Perm m) (v : Int) : sa l v = sa m v := by
  induction h with
  | nil => rfl
  | cons x _ ih => rw [sa_cons, sa_cons, ih]
  | swap x y l => rw [sa_cons, sa_cons, sa_cons, sa_cons]; omega
  | trans _ _ h1 h2 => exact h1.trans h2
theorem sa_rep (n : Nat) (a b v : Int) : sa (List.replicate n [a, b]).flatten v = (n : Int) * (ab (a - v) + ab (b - v)) := by
  induction n with
  | zero => simp [sa]
  | succ n ih =>
    rw [List.replicate_succ, List.flatten_cons, sa_app, ih, sa_cons, sa_cons, sa_nil]
    rw [Int.natCast_succ, Int.add_mul]
    omega
theorem mx3_ab {a b v : Int} (h : a ≤ b) : 2 * mx3 (a - v) (v - b) 0 = ab (a - v) + ab (b - v) - (b - a) := by
  unfold mx3 ab
  (repeat' split) <;> omega
theorem cost_sa : ∀ (rs : List R3) (v : Int), (∀ r ∈ rs, Good r) → 2 * cost rs v + wd rs = sa (bnds rs) v
  | [], v, _ => rfl
  | r :: rs, v, h => by
    have ih := cost_sa rs v fun x hx => h x (List.mem_cons_of_mem _ hx)
    obtain ⟨h1, h2⟩ := h r List.mem_cons_self
    have e1 : cost (r :: rs) v = r.2.2 * mx3 (r.1 - v) (v - r.2.1) 0 + cost rs v := by simp [cost]
    have e2 : wd (r :: rs) = r.2.2 * (r.2.1 - r.1) + wd rs := by simp [wd]
    have e3 : sa (bnds (r :: rs)) v = sa (bn r) v + sa (bnds rs) v := by
      show sa (List.flatMap bn (r :: rs)) v = _
      rw [List.flatMap_cons, sa_app]; rfl
    have e4 : sa (bn r) v = r.2.2 * (ab (r.1 - v) + ab (r.2.1 - v)) := by
      unfold bn
      rw [sa_rep, Int.toNat_of_nonneg (by omega)]
    have e5 : r.2.2 * (2 * mx3 (r.1 - v) (v - r.2.1) 0) = r.2.2 * (ab (r.1 - v) + ab (r.2.1 - v)) - r.2.2 * (r.2.1 - r.1) := by
      rw [mx3_ab h1, Int.mul_sub]
    have e6 : r.2.2 * (2 * mx3 (r.1 - v) (v - r.2.1) 0) = 2 * (r.2.2 * mx3 (r.1 - v) (v - r.2.1) 0) := by
      rw [← Int.mul_assoc, Int.mul_comm r.2.2 2, Int.mul_assoc]
    rw [e1, e2, e3, e4]
    omega
theorem left_ge (c v : Int) : ∀ (p : List Int), (∀ x ∈ p, x ≤ c) → sa p c + (p.length : Int) * (v - c) ≤ sa p v ∧ (c ≤ v → sa p c + (p.length : Int) * (v - c) = sa p v)
  | [], _ => by simp [sa]
  | b :: p, h => by
    obtain ⟨i1, i2⟩ := left_ge c v p fun x hx => h x (List.mem_cons_of_mem _ hx)
    have hb := h b List.mem_cons_self
    rw [sa_cons, sa_cons, List.length_cons, Int.natCast_succ, Int.add_mul]
    unfold ab
    refine ⟨?_, fun hv => ?_⟩
    · split <;> split <;> omega
    · have := i2 hv
      split <;> split <;> omega
theorem right_ge (c v : Int) : ∀ (p : List Int), (∀ x ∈ p, c ≤ x) → sa p c + (p.length : Int) * (c - v) ≤ sa p v ∧ (v ≤ c → sa p c + (p.length : Int) * (c - v) = sa p v)
  | [], _ => by simp [sa]
  | b :: p, h => by
    obtain ⟨i1, i2⟩ := right_ge c v p fun x hx => h x (List.mem_cons_of_mem _ hx)
    have hb := h b List.mem_cons_self
    rw [sa_cons, sa_cons, List.length_cons, Int.natCast_succ, Int.add_mul]
    unfold ab
    refine ⟨?_, fun hv => ?_⟩
    · split <;> split <;> omega
    · have := i2 hv
      split <;> split <;> omega
theorem mid (p q : List Int) (lo hi : Int) (hp : ∀ x ∈ p, x ≤ lo) (hq : ∀ x ∈ q, hi ≤ x) (hl : p.length = q.length) (hh : lo ≤ hi) (v : Int) :
    sa (p ++ lo :: hi :: q) lo ≤ sa (p ++ lo :: hi :: q) v ∧ (sa (p ++ lo :: hi :: q) v = sa (p ++ lo :: hi :: q) lo ↔ lo ≤ v ∧ v ≤ hi) := by
  have key : ∀ v, sa (p ++ lo :: hi :: q) v = sa p v + (ab (lo - v) + (ab (hi - v) + sa q v)) := fun v => by rw [sa_app, sa_cons, sa_cons]
  obtain ⟨a1, a2⟩ := left_ge lo v p hp
  obtain ⟨b1, b2⟩ := right_ge hi v q hq
  obtain ⟨c1, c2⟩ := right_ge hi lo q hq
  have c2 := c2 hh
  rw [key, key, ← c2]
  rw [hl] at a1 a2
  have e : (q.length : Int) * (v - lo) + (q.length : Int) * (hi - v) = (q.length : Int) * (hi - lo) := by rw [← Int.mul_add]; congr 1; omega
  have e0 : ab (lo - lo) = 0 := by simp [ab]
  have e1 : ab (hi - lo) = hi - lo := by unfold ab; split <;> omega
  rw [e0, e1]
  by_cases h : lo ≤ v ∧ v ≤ hi
  · have a2 := a2 h.1
    have b2 := b2 h.2
    have f1 : ab (lo - v) = v - lo := by unfold ab; split <;> omega
    have f2 : ab (hi - v) = hi - v := by unfold ab; split <;> omega
    rw [f1, f2]
    refine ⟨by omega, fun _ => h, fun _ => by omega⟩
  · have f : ab (lo - v) + ab (hi - v) > hi - lo := by unfold ab; split <;> split <;> omega
    refine ⟨by omega, fun z => by omega, fun z => absurd z h⟩
theorem bn_len (r : R3) : (bn r).length = 2 * r.2.2.toNat := by
  unfold bn
  generalize r.2.2.toNat = n
  induction n with
  | zero => rfl
  | succ n ih => rw [List.replicate_succ, List.flatten_cons, List.length_append, ih]; simp; omega
theorem bnds_len : ∀ (rs : List R3), ∃ k : Nat, (bnds rs).length = 2 * k ∧ ((∀ r ∈ rs, Good r) → rs.length ≤ k) ∧ ∀ M : Nat, (∀ r ∈ rs, r.2.2.toNat ≤ M) → k ≤ rs.length * M
  | [] => ⟨0, rfl, fun _ => Nat.le_refl _, fun _ _ => by simp⟩
  | r :: rs => by
    obtain ⟨k, h1, h2, h3⟩ := bnds_len rs
    refine ⟨r.2.2.toNat + k, ?_, fun h => ?_, fun M hM => ?_⟩
    · show (List.flatMap bn (r :: rs)).length = _
      rw [List.flatMap_cons, List.length_append, bn_len]
      show _ + (bnds rs).length = _
      omega
    · have := h2 fun x hx => h x (List.mem_cons_of_mem _ hx)
      have := (h r List.mem_cons_self).2
      simp; omega
    · have := h3 M fun x hx => hM x (List.mem_cons_of_mem _ hx)
      have := hM r List.mem_cons_self
      rw [List.length_cons, Nat.add_mul]
      omega
theorem median {rs : List R3} (h : ∀ r ∈ rs, Good r) (hne : rs ≠ []) : ∃ lo hi : Int, (srt (bnds rs))[(srt (bnds rs)).length / 2 - 1]? = some lo ∧ (srt (bnds rs))[(srt (bnds rs)).length / 2]? = some hi ∧ 2 ≤ (srt (bnds rs)).length ∧
    ∀ v, cost rs lo ≤ cost rs v ∧ (cost rs v = cost rs lo ↔ lo ≤ v ∧ v ≤ hi) := by
  obtain ⟨k, h1, h2, _⟩ := bnds_len rs
  have hp := srt_perm (bnds rs)
  have hs := srt_le (bnds rs)
  have hl := hp.length_eq
  rw [h1] at hl
  have hk : 1 ≤ k := by
    have := h2 h
    have := List.length_pos_iff.mpr hne
    omega
  generalize srt (bnds rs) = s at *
  have k1 : k - 1 < s.length := by omega
  have k2 : k < s.length := by omega
  have es : s = s.take (k - 1) ++ s[k - 1] :: s[k] :: s.drop (k + 1) := by
    have q1 : s.drop (k - 1) = s[k - 1] :: s.drop (k - 1 + 1) := List.drop_eq_getElem_cons k1
    have q2 : s.drop k = s[k] :: s.drop (k + 1) := List.drop_eq_getElem_cons k2
    rw [show k - 1 + 1 = k by omega, q2] at q1
    rw [← q1, List.take_append_drop]
  refine ⟨s[k - 1], s[k], ?_, ?_, by omega, fun v => ?_⟩
  · rw [hl, show 2 * k / 2 = k by omega]; exact List.getElem?_eq_getElem k1
  · rw [hl, show 2 * k / 2 = k by omega]; exact List.getElem?_eq_getElem k2
  have c : ∀ v, 2 * cost rs v + wd rs = sa s v := fun v => by rw [cost_sa rs v h, sa_perm hp]
  have hs2 := hs
  rw [es] at hs2
  rw [List.pairwise_append] at hs2
  obtain ⟨_, p2, p3⟩ := hs2
  rw [List.pairwise_cons] at p2
  obtain ⟨p4, p5⟩ := p2
  rw [List.pairwise_cons] at p5
  have m := mid (s.take (k - 1)) (s.drop (k + 1)) s[k - 1] s[k] (fun x hx => p3 x hx _ List.mem_cons_self) (fun x hx => p5.1 x hx) (by rw [List.length_take, List.length_drop]; omega) (p4 _ List.mem_cons_self) v
  rw [← es] at m
  have c1 := c v
  have c2 := c s[k - 1]
  obtain ⟨m1, m2⟩ := m
  refine ⟨by omega, ?_⟩
  rw [← m2]
  omega
end Lw
namespace Lw
open PySem PySem.Spec PyProof.Rows L2 FL
abbrev rowD (r : R3) : D := .tup [.int r.1, .int r.2.1, .int r.2.2]
abbrev rowT (r : R3) : T := .d (rowD r)
abbrev rowsD (rs : List R3) : D := .lst (rs.map rowD)
/-- a list or a tuple of the rows, that nobody changes -/
def IsRows (x : T) (rs : List R3) : Prop := ∀ S, ∃ b, seqG x S = some (b, rs.map rowT, [])
theorem isRows_lst (rs : List R3) : IsRows (.d (rowsD rs)) rs := fun S => ⟨false, by simp⟩
theorem isRows_tup (rs : List R3) : IsRows (.d (.tup (rs.map rowD))) rs := fun S => ⟨true, by simp⟩
theorem draw_ok {p : Nat} {n : Int} {S : Cs} {s : Int × Int} (h : S[p]? = some (srcC s)) (h0 : 0 < n) (h1 : n < 2 ^ 64) : m_l_draw [.own p, ti n] S = some (ti (dR s n), S.set p (srcC (dS s n))) := m_draw_eq p n S s h h0 h1
theorem between_ok {p : Nat} {a b : Int} {S : Cs} {s : Int × Int} (h : S[p]? = some (srcC s)) (h0 : 0 < b - a + 1) (h1 : b - a + 1 < 2 ^ 64) : m_l_between [.own p, ti a, ti b] S = some (ti (a + dR s (b - a + 1)), S.set p (srcC (dS s (b - a + 1)))) := by
  simp [m_l_between, draw_ok h h0 h1]
theorem whole_ok {i : Int} : m_l_whole [ti i] [] = some (tb true, []) := by simp [m_l_whole]
/-- what the masses must be -/
def Mass (M : Int) (r : R3) : Prop := Good r ∧ r.2.2 ≤ M
theorem cmul {r : R3} (h : Mass 99 r) (j : Int) : CMul r.2.2 j := cm_l (by have := h.1.2; omega) (by have := h.2; omega)
theorem cost_of_ok {x : T} {rs : List R3} {v : Int} (hx : IsRows x rs) (h : ∀ r ∈ rs, Mass 99 r) (hl : rs.length ≤ 1000) : ∃ S', m_cost_of [x, ti v] [] = some (ti (cost rs v), S') := by
  obtain ⟨b, hs⟩ := hx []
  have e := cComp_all (σ := [some x, some (ti v), none, none, none]) (fe := cV 0) (g := gT 3 (gCons (gN 2) (gCons (gN 3) (gCons (gN 4) (gNil))))) (f := cBin oMul (cV 4) (cCB bMax3 (aCons (cBin oSub (cV 2) (cV 1)) (aCons (cBin oSub (cV 1) (cV 3)) (aCons (cK (.int 0)) (aNil)))))) (vs := [2, 3, 4])
    rowT (fun r : R3 => ti (r.2.2 * mx3 (r.1 - v) (v - r.2.1) 0)) rfl hs (by omega) fun r hr => ⟨[some x, some (ti v), some (ti r.1), some (ti r.2.1), some (ti r.2.2)], by simp, by simp [oMul_int (cmul (h r hr) _)]⟩
  have q := bSum_own (S := [Cell.lst (rs.map fun r : R3 => ti (r.2.2 * mx3 (r.1 - v) (v - r.2.1) 0))]) (p := 0) (ns := rs.map fun r : R3 => r.2.2 * mx3 (r.1 - v) (v - r.2.1) 0) (by simp)
  refine ⟨[], ?_⟩
  have z : cCB bSum (aCons (cComp (iE (cV 0)) (gT 3 (gCons (gN 2) (gCons (gN 3) (gCons (gN 4) (gNil))))) (cYes) (cBin oMul (cV 4) (cCB bMax3 (aCons (cBin oSub (cV 2) (cV 1)) (aCons (cBin oSub (cV 1) (cV 3)) (aCons (cK (.int 0)) (aNil)))))) [2, 3, 4]) (aNil)) [some x, some (ti v), none, none, none] [] = some (ti (cost rs v), [] ++ [Cell.lst (rs.map fun r : R3 => ti (r.2.2 * mx3 (r.1 - v) (v - r.2.1) 0))]) := by
    rw [cCB_ap, aCons_ap, e, consK_s, aNil_ap, consK2_s, cbK_s]
    exact q
  unfold m_cost_of
  rw [fnM_ap]
  show fnK (cRet (cTrim _) [some x, some (ti v), none, none, none] []) = _
  rw [cRet_ap]
  show fnK (retK (trimT 0 (cCB _ _ _ _)) _) = _
  rw [z, trimT_s (k := 0) rfl wf_nil]
  rfl
theorem l_cost_ok {x : T} {rs : List R3} {v : Int} (hx : IsRows x rs) (h : ∀ r ∈ rs, Mass 99 r) (hl : rs.length ≤ 1000) : ∃ S', m_l_cost [x, ti v] [] = some (ti (cost rs v), S') := by
  obtain ⟨b, hs⟩ := hx []
  have e := cComp_all (σ := [some x, some (ti v), none]) (fe := cV 0) (g := gN 2) (f := cBin oMul (cBin oIx (cV 2) (cK (.int 2))) (cCB bMax3 (aCons (cBin oSub (cBin oIx (cV 2) (cK (.int 0))) (cV 1)) (aCons (cBin oSub (cV 1) (cBin oIx (cV 2) (cK (.int 1)))) (aCons (cK (.int 0)) (aNil)))))) (vs := [2])
    rowT (fun r : R3 => ti (r.2.2 * mx3 (r.1 - v) (v - r.2.1) 0)) rfl hs (by omega) fun r hr => ⟨[some x, some (ti v), some (rowT r)], by simp, by simp [oMul_int (cmul (h r hr) _)]⟩
  have q := bSum_own (S := [Cell.lst (rs.map fun r : R3 => ti (r.2.2 * mx3 (r.1 - v) (v - r.2.1) 0))]) (p := 0) (ns := rs.map fun r : R3 => r.2.2 * mx3 (r.1 - v) (v - r.2.1) 0) (by simp)
  refine ⟨[], ?_⟩
  unfold m_l_cost
  rw [fnM_ap]
  show fnK (cRet (cTrim (cCB _ (aCons (cComp _ _ _ _ _) _))) [some x, some (ti v), none] []) = _
  rw [cRet_ap]
  show fnK (retK (trimT 0 (cCB _ _ _ _)) _) = _
  rw [cCB_ap, aCons_ap, e, consK_s, aNil_ap, consK2_s, cbK_s]
  show fnK (retK (trimT 0 (bSum [.own 0] ([] ++ [_]))) _) = _
  rw [show ([] ++ [Cell.lst (rs.map fun r : R3 => ti (r.2.2 * mx3 (r.1 - v) (v - r.2.1) 0))] : Cs) = [Cell.lst (rs.map fun r : R3 => ti (r.2.2 * mx3 (r.1 - v) (v - r.2.1) 0))] from rfl, q]
  rw [show (some (ti (rs.map fun r : R3 => r.2.2 * mx3 (r.1 - v) (v - r.2.1) 0).sum, [Cell.lst (rs.map fun r : R3 => ti (r.2.2 * mx3 (r.1 - v) (v - r.2.1) 0))]) : Option (T × Cs)) = some (ti (cost rs v), [] ++ [Cell.lst (rs.map fun r : R3 => ti (r.2.2 * mx3 (r.1 - v) (v - r.2.1) 0))]) from rfl, trimT_s (k := 0) rfl wf_nil]
  rfl
theorem bnds_app (rs : List R3) (r : R3) : bnds (rs ++ [r]) = bnds rs ++ bn r := by simp [bnds]
theorem bnds_short {rs : List R3} (h : ∀ r ∈ rs, Mass 99 r) (hl : rs.length ≤ 41) : (bnds rs).length ≤ 10000 := by
  obtain ⟨k, h1, _, h3⟩ := bnds_len rs
  have := h3 99 fun r hr => by have := (h r hr).2; omega
  have : rs.length * 99 ≤ 41 * 99 := Nat.mul_le_mul_right _ hl
  omega
theorem rep_ti (n : Nat) (a b : Int) : (List.replicate n [ti a, ti b]).flatten = ((List.replicate n [a, b]).flatten).map ti := by
  induction n with
  | zero => rfl
  | succ n ih => rw [List.replicate_succ, List.replicate_succ, List.flatten_cons, List.flatten_cons, List.map_append, ih]; rfl
/-- [lo, hi] * mass -/
theorem oMul_rep {S : Cs} {p : Nat} {r : R3} (h : S[p]? = some (.lst [ti r.1, ti r.2.1])) (hm : Mass 99 r) : oOr oMulI oRep (.own p) (ti r.2.2) S = some (.own S.length, S ++ [.lst ((bn r).map ti)]) := by
  have e : oMulI (.own p) (ti r.2.2) S = none := rfl
  unfold oOr
  rw [e]
  unfold oRep
  rw [lstOf_own h]
  show (if _ then _ else _) = _
  have h1 := hm.1.2
  have h2 := hm.2
  have hz : ([ti r.1, ti r.2.1] : List T).length * r.2.2.toNat ≤ sizeLine := le_size (by simp; omega)
  rw [if_pos ⟨by omega, by omega, hz⟩, rep_ti]
  rfl
theorem bounds_loop {x : T} {rs : List R3} (hx : IsRows x rs) (h : ∀ r ∈ rs, Mass 99 r) (hl : rs.length ≤ 41) :
    ∃ o2 o3 o4, cFor (iE (cV 0)) (gT 3 (gCons (gN 2) (gCons (gN 3) (gCons (gN 4) (gNil))))) (cDrop (cTrim (cMt mExtend (cV 1) (aCons (cBin oMul (cLst (aCons (cV 2) (aCons (cV 3) (aNil)))) (cV 4)) (aNil))))) [2, 3, 4] [some x, some (.own 0), none, none, none] [.lst []] =
      some (.nx, [some x, some (.own 0), o2, o3, o4], [.lst ((bnds rs).map ti)]) := by
  obtain ⟨b, hs⟩ := hx [.lst []]
  have loop := loop_inv (g := gT 3 (gCons (gN 2) (gCons (gN 3) (gCons (gN 4) (gNil))))) (body := cDrop (cTrim (cMt mExtend (cV 1) (aCons (cBin oMul (cLst (aCons (cV 2) (aCons (cV 3) (aNil)))) (cV 4)) (aNil))))) (cl := [2, 3, 4]) (gs := [])
    (σ := [some x, some (.own 0), none, none, none]) (S := [.lst []]) (fun r : R3 => .one (rowT r)) (fun done σ S => σ = [some x, some (.own 0), none, none, none] ∧ S = [.lst ((bnds done).map ti)]) (fun _ _ _ _ => trivial) rs ?_ ⟨rfl, rfl⟩
  · obtain ⟨σ', S', e, rfl, rfl⟩ := loop
    refine ⟨none, none, none, ?_⟩
    rw [cFor_ap, iE_ap, show cV 0 [some x, some (T.own 0), none, none, none] [Cell.lst []] = some (x, [.lst []]) from rfl, iEK_s, hs]
    show forK (some ((rs.map rowT).map .one, [], _)) _ _ _ _ = _
    rw [forK_s, List.map_map]
    exact e
  · rintro done r rest σ S er ⟨rfl, rfl⟩
    have hm := h r (by rw [er]; simp)
    have hb : (bnds done).length + (bn r).length ≤ 10000 := by
      have := bnds_short (rs := done ++ [r]) (fun x hx => h x (by rw [er]; simp at hx ⊢; rcases hx with hx | hx; exact .inl hx; exact .inr (.inl hx))) (by rw [er] at hl; simp at hl ⊢; omega)
      rw [bnds_app, List.length_append] at this
      exact this
    refine ⟨[some x, some (.own 0), some (ti r.1), some (ti r.2.1), some (ti r.2.2)], [.lst ((bnds done).map ti)], [some x, some (.own 0), some (ti r.1), some (ti r.2.1), some (ti r.2.2)], [.lst ((bnds (done ++ [r])).map ti)], by simp, ?_, rfl, rfl⟩
    have e1 := oMul_rep (S := [.lst ((bnds done).map ti), .lst [ti r.1, ti r.2.1]]) (p := 1) rfl hm
    have e2 := extend_ok (S := [.lst ((bnds done).map ti), .lst [ti r.1, ti r.2.1], .lst ((bn r).map ti)]) (p := 0) (x := .own 2) (us := (bn r).map ti) rfl (lstOf_own rfl) (by simp; omega)
    rw [← List.map_append, ← bnds_app] at e2
    have il := isLst_own (S := [.lst ((bnds done).map ti)]) (p := 0) (ts := (bnds done).map ti) rfl
    have tr := trimT_s (k := 1) (d := .non) (S' := [Cell.lst ((bnds (done ++ [r])).map ti)]) (G := [.lst [ti r.1, ti r.2.1], .lst ((bn r).map ti)]) rfl (wf_app wf_nil cb_ti)
    rw [cDrop_ap]
    show dropK (trimT 1 (cMt _ _ _ _ _)) _ = _
    have z : cMt mExtend (cV 1) (aCons (cBin oMul (cLst (aCons (cV 2) (aCons (cV 3) (aNil)))) (cV 4)) (aNil)) [some x, some (.own 0), some (ti r.1), some (ti r.2.1), some (ti r.2.2)] [.lst ((bnds done).map ti)] = some (.d .non, [Cell.lst ((bnds (done ++ [r])).map ti)] ++ [.lst [ti r.1, ti r.2.1], .lst ((bn r).map ti)]) := by
      simp at e1 e2
      simp [mtK_s il, e1, e2]
    rw [z, tr]
    rfl
theorem rep_bounds_ok {x : T} {rs : List R3} (hx : IsRows x rs) (h : ∀ r ∈ rs, Mass 99 r) (hl : rs.length ≤ 41) : ∃ S', m_repeated_bounds [x] [] = some (.own 1, S') ∧ S'[1]? = some (.lst ((srt (bnds rs)).map ti)) := by
  obtain ⟨o2, o3, o4, e⟩ := bounds_loop hx h hl
  have q := bSortI_own (S := [Cell.lst ((bnds rs).map ti)]) (p := 0) rfl
  refine ⟨[.lst ((bnds rs).map ti), .lst ((srt (bnds rs)).map ti)], ?_, rfl⟩
  unfold m_repeated_bounds
  rw [fnM_ap, cSeq_ap]
  show fnK (seqK (some (.nx, [some x, some (.own 0), none, none, none], [.lst []])) _) = _
  rw [seqK_nx, cSeq_ap, e, seqK_nx]
  show fnK (retK (bSortI [.own 0] _) _) = _
  rw [q]
  rfl
end Lw
namespace Lw
open PySem PySem.Spec PyProof.Rows L2 FL
theorem rowT_map (rs : List R3) : rs.map rowT = (rs.map rowD).map T.d := by rw [List.map_map]; rfl
theorem l_bounds_ok {x : T} {rs : List R3} (hx : IsRows x rs) (h : ∀ r ∈ rs, Mass 99 r) (hl : rs.length ≤ 41) : ∃ S', m_l_bounds [x] [] = some (.own 1, S') ∧ S'[1]? = some (.lst ((srt (bnds rs)).map ti)) := by
  obtain ⟨b, hs⟩ := hx [.lst []]
  have loop := loop_inv (g := gN 2) (body := cDrop (cTrim (cMt mExtend (cV 1) (aCons (cBin oMul (cLst (aCons (cBin oIx (cV 2) (cK (.int 0))) (aCons (cBin oIx (cV 2) (cK (.int 1))) (aNil)))) (cBin oIx (cV 2) (cK (.int 2)))) (aNil))))) (cl := [2]) (gs := [])
    (σ := [some x, some (.own 0), none]) (S := [.lst []]) (fun r : R3 => .one (rowT r)) (fun done σ S => σ = [some x, some (.own 0), none] ∧ S = [.lst ((bnds done).map ti)]) (fun _ _ _ _ => trivial) rs ?_ ⟨rfl, rfl⟩
  · obtain ⟨σ', S', e, rfl, rfl⟩ := loop
    have q := bSortI_own (S := [Cell.lst ((bnds rs).map ti)]) (p := 0) rfl
    refine ⟨[.lst ((bnds rs).map ti), .lst ((srt (bnds rs)).map ti)], ?_, rfl⟩
    unfold m_l_bounds
    rw [fnM_ap, cSeq_ap]
    show fnK (seqK (some (.nx, [some x, some (.own 0), none], [.lst []])) _) = _
    rw [seqK_nx, cSeq_ap, cFor_ap, iE_ap, show cV 0 [some x, some (T.own 0), none] [Cell.lst []] = some (x, [.lst []]) from rfl, iEK_s, hs]
    show fnK (seqK (forK (some ((rs.map rowT).map .one, [], _)) _ _ _ _) _) = _
    rw [forK_s, List.map_map]
    show fnK (seqK (loopF _ _ _ _ (rs.map fun r : R3 => .one (rowT r)) [some x, some (.own 0), none] _) _) = _
    rw [e, seqK_nx]
    show fnK (retK (bSortI [.own 0] _) _) = _
    rw [q]
    rfl
  · rintro done r rest σ S er ⟨rfl, rfl⟩
    have hm := h r (by rw [er]; simp)
    have hb : (bnds done).length + (bn r).length ≤ 10000 := by
      have := bnds_short (rs := done ++ [r]) (fun x hx => h x (by rw [er]; simp at hx ⊢; rcases hx with hx | hx; exact .inl hx; exact .inr (.inl hx))) (by rw [er] at hl; simp at hl ⊢; omega)
      rw [bnds_app, List.length_append] at this
      exact this
    refine ⟨[some x, some (.own 0), some (rowT r)], [.lst ((bnds done).map ti)], [some x, some (.own 0), some (rowT r)], [.lst ((bnds (done ++ [r])).map ti)], by simp, ?_, rfl, rfl⟩
    have e1 := oMul_rep (S := [.lst ((bnds done).map ti), .lst [ti r.1, ti r.2.1]]) (p := 1) rfl hm
    have e2 := extend_ok (S := [.lst ((bnds done).map ti), .lst [ti r.1, ti r.2.1], .lst ((bn r).map ti)]) (p := 0) (x := .own 2) (us := (bn r).map ti) rfl (lstOf_own rfl) (by simp; omega)
    rw [← List.map_append, ← bnds_app] at e2
    have il := isLst_own (S := [.lst ((bnds done).map ti)]) (p := 0) (ts := (bnds done).map ti) rfl
    have tr := trimT_s (k := 1) (d := .non) (S' := [Cell.lst ((bnds (done ++ [r])).map ti)]) (G := [.lst [ti r.1, ti r.2.1], .lst ((bn r).map ti)]) rfl (wf_app wf_nil cb_ti)
    rw [cDrop_ap]
    show dropK (trimT 1 (cMt _ _ _ _ _)) _ = _
    have z : cMt mExtend (cV 1) (aCons (cBin oMul (cLst (aCons (cBin oIx (cV 2) (cK (.int 0))) (aCons (cBin oIx (cV 2) (cK (.int 1))) (aNil)))) (cBin oIx (cV 2) (cK (.int 2)))) (aNil)) [some x, some (.own 0), some (rowT r)] [.lst ((bnds done).map ti)] = some (.d .non, [Cell.lst ((bnds (done ++ [r])).map ti)] ++ [.lst [ti r.1, ti r.2.1], .lst ((bn r).map ti)]) := by
      simp at e1 e2
      simp [mtK_s il, e1, e2]
    rw [z, tr]
    rfl
def mk4 (r : R3) : List Int := [r.1 - 1, r.1, r.2.1, r.2.1 + 1]
theorem marks_ok {x : T} {rs : List R3} (hx : IsRows x rs) (hl : rs.length ≤ 41) : ∃ (S' : Cs) (ms : List Int), m_l_marks [x] [] = some (.own 1, S') ∧ S'[1]? = some (.lst (ms.map ti)) ∧ ms.length = 4 * rs.length := by
  obtain ⟨b, hs⟩ := hx [.lst []]
  have loop := loop_inv (g := gN 2) (body := cDrop (cTrim (cMt mExtend (cV 1) (aCons (cLst (aCons (cBin oSub (cBin oIx (cV 2) (cK (.int 0))) (cK (.int 1))) (aCons (cBin oIx (cV 2) (cK (.int 0))) (aCons (cBin oIx (cV 2) (cK (.int 1))) (aCons (cBin oAdd (cBin oIx (cV 2) (cK (.int 1))) (cK (.int 1))) (aNil)))))) (aNil))))) (cl := [2]) (gs := [])
    (σ := [some x, some (.own 0), none]) (S := [.lst []]) (fun r : R3 => .one (rowT r)) (fun done σ S => σ = [some x, some (.own 0), none] ∧ S = [.lst ((done.flatMap mk4).map ti)]) (fun _ _ _ _ => trivial) rs ?_ ⟨rfl, rfl⟩
  · obtain ⟨σ', S', e, rfl, rfl⟩ := loop
    have q := bSortI_own (S := [Cell.lst ((rs.flatMap mk4).map ti)]) (p := 0) rfl
    refine ⟨[.lst ((rs.flatMap mk4).map ti), .lst ((srt (rs.flatMap mk4)).map ti)], srt (rs.flatMap mk4), ?_, rfl, ?_⟩
    · unfold m_l_marks
      rw [fnM_ap, cSeq_ap]
      show fnK (seqK (some (.nx, [some x, some (.own 0), none], [.lst []])) _) = _
      rw [seqK_nx, cSeq_ap, cFor_ap, iE_ap, show cV 0 [some x, some (T.own 0), none] [Cell.lst []] = some (x, [.lst []]) from rfl, iEK_s, hs]
      show fnK (seqK (forK (some ((rs.map rowT).map .one, [], _)) _ _ _ _) _) = _
      rw [forK_s, List.map_map]
      show fnK (seqK (loopF _ _ _ _ (rs.map fun r : R3 => .one (rowT r)) [some x, some (.own 0), none] _) _) = _
      rw [e, seqK_nx]
      show fnK (retK (bSortI [.own 0] _) _) = _
      rw [q]
      rfl
    · rw [(srt_perm _).length_eq]
      clear q e hl hx hs
      induction rs with
      | nil => rfl
      | cons r rs ih => rw [List.flatMap_cons, List.length_append, ih, List.length_cons]; simp [mk4]; omega
  · rintro done r rest σ S er ⟨rfl, rfl⟩
    have hb : (done.flatMap mk4).length = 4 * done.length := by
      clear er
      induction done with
      | nil => rfl
      | cons r rs ih => rw [List.flatMap_cons, List.length_append, ih, List.length_cons]; simp [mk4]; omega
    have hd : done.length ≤ 41 := by rw [er] at hl; simp at hl; omega
    refine ⟨[some x, some (.own 0), some (rowT r)], [.lst ((done.flatMap mk4).map ti)], [some x, some (.own 0), some (rowT r)], [.lst (((done ++ [r]).flatMap mk4).map ti)], by simp, ?_, rfl, rfl⟩
    have e2 := extend_ok (S := [.lst ((done.flatMap mk4).map ti), .lst ((mk4 r).map ti)]) (p := 0) (x := .own 1) (us := (mk4 r).map ti) rfl (lstOf_own rfl) (by simp [mk4] at hb ⊢; omega)
    have eb : (done ++ [r]).flatMap mk4 = done.flatMap mk4 ++ mk4 r := by simp
    rw [← List.map_append, ← eb] at e2
    have il := isLst_own (S := [.lst ((done.flatMap mk4).map ti)]) (p := 0) (ts := (done.flatMap mk4).map ti) rfl
    have tr := trimT_s (k := 1) (d := .non) (S' := [Cell.lst (((done ++ [r]).flatMap mk4).map ti)]) (G := [.lst ((mk4 r).map ti)]) rfl (wf_app wf_nil cb_ti)
    rw [cDrop_ap]
    show dropK (trimT 1 (cMt _ _ _ _ _)) _ = _
    have z : cMt mExtend (cV 1) (aCons (cLst (aCons (cBin oSub (cBin oIx (cV 2) (cK (.int 0))) (cK (.int 1))) (aCons (cBin oIx (cV 2) (cK (.int 0))) (aCons (cBin oIx (cV 2) (cK (.int 1))) (aCons (cBin oAdd (cBin oIx (cV 2) (cK (.int 1))) (cK (.int 1))) (aNil)))))) (aNil)) [some x, some (.own 0), some (rowT r)] [.lst ((done.flatMap mk4).map ti)] = some (.d .non, [Cell.lst (((done ++ [r]).flatMap mk4).map ti)] ++ [.lst ((mk4 r).map ti)]) := by
      rw [cMt_ap, show cV 1 [some x, some (T.own 0), some (rowT r)] [Cell.lst ((done.flatMap mk4).map ti)] = some (.own 0, [Cell.lst ((done.flatMap mk4).map ti)]) from rfl, mtK_s il]
      have a : ∀ S, aCons (cLst (aCons (cBin oSub (cBin oIx (cV 2) (cK (.int 0))) (cK (.int 1))) (aCons (cBin oIx (cV 2) (cK (.int 0))) (aCons (cBin oIx (cV 2) (cK (.int 1))) (aCons (cBin oAdd (cBin oIx (cV 2) (cK (.int 1))) (cK (.int 1))) (aNil)))))) (aNil) [some x, some (.own 0), some (rowT r)] S = some ([.own S.length], S ++ [.lst ((mk4 r).map ti)]) := fun S => by simp [mk4]
      rw [a, mtK2_s]
      exact e2
    rw [z, tr]
    rfl
theorem at_lo {s : List Int} {lo : Int} (h2 : 2 ≤ s.length) (h : s[s.length / 2 - 1]? = some lo) : atI ((s.map D.int).map T.d) ((s.length : Int) / 2 - 1) = some (ti lo) := by
  rw [atI_ge _ _ (by omega), show ((s.length : Int) / 2 - 1).toNat = s.length / 2 - 1 by omega, List.getElem?_map, List.getElem?_map, h]
  rfl
theorem at_hi {s : List Int} {hi : Int} (h : s[s.length / 2]? = some hi) : atI ((s.map D.int).map T.d) ((s.length : Int) / 2) = some (ti hi) := by
  rw [atI_ge _ _ (by omega), show ((s.length : Int) / 2).toNat = s.length / 2 by omega, List.getElem?_map, List.getElem?_map, h]
  rfl
abbrev tri (a b c : Int) : D := .tup [.int a, .int b, .int c]
theorem middle_ok {d : D} {rs : List R3} {lo hi : Int} (hx : IsRows (.d d) rs) (h : ∀ r ∈ rs, Mass 99 r) (hl : rs.length ≤ 41) (h2 : 2 ≤ (srt (bnds rs)).length) (hlo : (srt (bnds rs))[(srt (bnds rs)).length / 2 - 1]? = some lo) (hhi : (srt (bnds rs))[(srt (bnds rs)).length / 2]? = some hi) :
    ∃ S', m_middle_span [.d d] [] = some (.d (tri (cost rs lo) lo hi), S') := by
  obtain ⟨S1, e1, g1⟩ := rep_bounds_ok hx h hl
  rw [map_ti] at g1
  obtain ⟨S2, e2⟩ := cost_of_ok (v := lo) hx h (by omega)
  have c1 := callP3_o (S := []) (S1 := S1) (toD_own g1)
  rw [← e1] at c1
  have l1 := at_lo h2 hlo
  have l2 := at_hi hhi
  refine ⟨[], ?_⟩
  simp only [List.map_map] at l1 l2
  simp [m_middle_span, c1, oDiv_int, l1, l2, e2]
theorem same_ok (a b c : Int) : ∃ S', m_l_same [.d (tri a b c), .d (tri a b c)] [] = some (tb true, S') := by
  have w : ∀ i : Int, m_l_whole [ti i] [] = some (tb true, []) := fun i => whole_ok
  have q : eqT (.d (tri a b c)) (.d (tri a b c)) [] = some true := eqT_same (p := .tuple [.int a, .int b, .int c]) rfl rfl (by simp [SeqAt.shaped, PyData.canLay0, PyData.canLayAll0, PyData.depth, PyData.depthAll]) (by simp [PyData.eqv, PyData.eqvAll])
  have q2 := oEq_of q
  have i1 : bIsi [.d (tri a b c), .d (.ty "tuple")] [] = some (tb true, []) := rfl
  refine ⟨[], ?_⟩
  simp [m_l_same, i1, loopF_cons, loopF_nil, w, q2]
end Lw
namespace Lw
open PySem PySem.Spec PyProof.Rows L2 FL
theorem far_ok {p : Nat} {S : Cs} {s : Int × Int} (h : S[p]? = some (srcC s)) : ∃ (s' : Int × Int) (v : Int), m_l_far [.own p] S = some (ti v, S.set p (srcC s')) := by
  have d1 := draw_ok (n := 4) h (by decide) (by decide)
  generalize dR s 4 = r1 at d1
  generalize dS s 4 = s1 at d1
  by_cases h0 : r1 = 0
  · exact ⟨s1, 6 - 1000000000, by simp [m_l_far, d1, h0]⟩
  · by_cases h1 : r1 = 1
    · exact ⟨s1, 1000000000 - 17, by simp [m_l_far, d1, h0, h1]⟩
    · have d2 := between_ok (a := -100000000) (b := 100000000) (set_get (c := srcC s1) h) (by decide) (by decide)
      simp at d2
      exact ⟨_, _, by simp [m_l_far, d1, h0, h1, d2]; exact ⟨rfl, rfl⟩⟩
/-- the loop of the estimates -/
theorem estimates_ok {c0 c1 : Cell} {s : Int × Int} {n M : Int} (n0 : 1 ≤ n) (n1 : n ≤ 40) (m0 : 1 ≤ M) (m1 : M ≤ 99) :
    ∃ (s' : Int × Int) (rs : List R3), rs.length = n.toNat ∧ (∀ r ∈ rs, Mass M r) ∧ m_l_estimates [.own 2, ti n, ti M] [c0, c1, srcC s] = some (.own 3, [c0, c1, srcC s', .lst (rs.map rowT)]) := by
  have hr : ∀ σ S, σ[1]? = some (some (ti n)) → iRange1 (aCons (cV 1) (aNil)) σ S = some (itR 0 n, [], S) := fun σ S hσ => iRange1_s (by simp [hσ]) ⟨by omega, by omega⟩
  have loop := loop_go (g := gN 4) (body := (cSeq (cSet 5 (cCallS m_l_draw [] 2 (aCons (cV 0) (aCons (cK (.int 4)) (aNil)))))
      (cSeq (cSet 6 (cCallS m_l_between [] 3 (aCons (cV 0) (aCons (cBin oSub (cK (.int 0)) (cK (.int 6))) (aCons (cK (.int 9)) (aNil))))))
      (cSeq (cSet 7 (cBin oAdd (cK (.int 1)) (cCallS m_l_draw [] 2 (aCons (cV 0) (aCons (cV 2) (aNil))))))
      (cSeq (cIfS (cB (cBin oGt (cV 4) (cK (.int 0)))) (cSeq (cSet 8 (cBin oIx (cV 3) (cCallS m_l_draw [] 2 (aCons (cV 0) (aCons (cV 4) (aNil))))))
      (cSeq (cIfS (cOr (cB (cBin oEq (cV 5) (cK (.int 1)))) (cB (cBin oEq (cV 5) (cK (.int 2))))) (cSet 7 (cBin oIx (cV 8) (cK (.int 2)))) (cNx))
      (cSeq (cIfS (cB (cBin oEq (cV 5) (cK (.int 2)))) (cSet 6 (cBin oAdd (cBin oIx (cV 8) (cK (.int 1))) (cK (.int 1)))) (cNx))
      (cIfS (cB (cBin oEq (cV 5) (cK (.int 3)))) (cSet 6 (cBin oIx (cV 8) (cK (.int 0)))) (cNx))))) (cNx))
      (cSeq (cIfS (cB (cBin oGt (cV 6) (cK (.int 12)))) (cSet 6 (cBin oSub (cV 6) (cK (.int 18)))) (cNx))
      (cSeq (cSet 9 (cCallS m_l_draw [] 2 (aCons (cV 0) (aCons (cBin oAdd (cK (.int 1)) (cCallS m_l_draw [] 2 (aCons (cV 0) (aCons (cK (.int 6)) (aNil))))) (aNil)))))
      (cDrop (cMt mAppend (cV 3) (aCons (cTup (aCons (cV 6) (aCons (cBin oAdd (cV 6) (cV 9)) (aCons (cV 7) (aNil))))) (aNil))))))))))) (cl := [4, 5, 6, 7, 8, 9]) (gs := [])
    (σ := [some (.own 2), some (ti n), some (ti M), some (.own 3), none, none, none, none, none, none]) (S := [c0, c1, srcC s, .lst []]) (fun i : Int => .one (ti i))
    (fun done σ S => ∃ (s' : Int × Int) (rs : List R3), rs.length = done.length ∧ (∀ r ∈ rs, Mass M r) ∧ σ = [some (.own 2), some (ti n), some (ti M), some (.own 3), none, none, none, none, none, none] ∧ S = [c0, c1, srcC s', .lst (rs.map rowT)]) (fun _ _ _ _ => trivial) (rangeL 0 n) ?_ ⟨s, [], rfl, by simp, rfl, rfl⟩
  · obtain ⟨σ', S', e, s', rs, hl, hm, rfl, rfl⟩ := loop
    refine ⟨s', rs, by rw [hl, rangeL_len]; omega, hm, ?_⟩
    unfold m_l_estimates
    rw [fnM_ap, cSeq_ap]
    show fnK (seqK (some (.nx, [some (.own 2), some (ti n), some (ti M), some (.own 3), none, none, none, none, none, none], [c0, c1, srcC s, .lst []])) _) = _
    rw [seqK_nx, cSeq_ap, cFor_ap, hr _ _ rfl, forK_s, itR_enc]
    show fnK (seqK (loopF _ _ _ _ _ [some (.own 2), some (ti n), some (ti M), some (.own 3), none, none, none, none, none, none] _) _) = _
    rw [e, seqK_nx]
    rfl
  · rintro done i rest σ S er ⟨s1, rs, hl, hm, rfl, rfl⟩
    have hi : i = (done.length : Int) ∧ done.length < 40 := by
      have e1 := congrArg (fun l => l[done.length]?) er
      have e2 := congrArg List.length er
      rw [rangeL_len] at e2
      simp at e1 e2
      unfold rangeL at e1
      rw [List.getElem?_map, List.getElem?_range (by omega)] at e1
      simp at e1
      exact ⟨e1.symm, by omega⟩
    obtain ⟨rfl, hd⟩ := hi
    refine ⟨_, _, gN_one, ?_⟩
    show ∃ σ2 S2, (cSeq _ _) [some (.own 2), some (ti n), some (ti M), some (.own 3), some (ti (done.length : Int)), none, none, none, none, none] [c0, c1, srcC s1, .lst (rs.map rowT)] = some (.nx, σ2, S2) ∧ _
    -- the three draws
    have d1 := draw_ok (p := 2) (n := 4) (S := [c0, c1, srcC s1, .lst (rs.map rowT)]) (s := s1) rfl (by decide) (by decide)
    generalize dR s1 4 = r5 at d1
    generalize dS s1 4 = s2 at d1
    refine seq_ex (σ' := [some (.own 2), some (ti n), some (ti M), some (.own 3), some (ti (done.length : Int)), some (ti r5), none, none, none, none]) (S' := [c0, c1, srcC s2, .lst (rs.map rowT)]) (by simp at d1; simp [d1]) ?_
    have d2 := between_ok (p := 2) (a := -6) (b := 9) (S := [c0, c1, srcC s2, .lst (rs.map rowT)]) (s := s2) rfl (by decide) (by decide)
    have q0 := dR_nn s2 (n := 9 - -6 + 1) (by decide)
    generalize dR s2 (9 - -6 + 1) = r6 at d2 q0
    generalize dS s2 (9 - -6 + 1) = s3 at d2
    refine seq_ex (σ' := [some (.own 2), some (ti n), some (ti M), some (.own 3), some (ti (done.length : Int)), some (ti r5), some (ti (-6 + r6)), none, none, none]) (S' := [c0, c1, srcC s3, .lst (rs.map rowT)]) (by simp at d2; simp [d2]) ?_
    have d3 := draw_ok (p := 2) (n := M) (S := [c0, c1, srcC s3, .lst (rs.map rowT)]) (s := s3) rfl (by omega) (by omega)
    have t0 := dR_nn s3 (n := M) (by omega)
    have t1 := dR_lt s3 (n := M) (by omega)
    generalize dR s3 M = r7 at d3 t0 t1
    generalize dS s3 M = s4 at d3
    refine seq_ex (σ' := [some (.own 2), some (ti n), some (ti M), some (.own 3), some (ti (done.length : Int)), some (ti r5), some (ti (-6 + r6)), some (ti (1 + r7)), none, none]) (S' := [c0, c1, srcC s4, .lst (rs.map rowT)]) (by simp at d3; simp [d3]) ?_
    -- another row's parts
    obtain ⟨s5, lo, ma, o8, hma, e4⟩ : ∃ (s5 : Int × Int) (lo ma : Int) (o8 : Option T), (1 ≤ ma ∧ ma ≤ M) ∧ cIfS (cB (cBin oGt (cV 4) (cK (.int 0)))) (cSeq (cSet 8 (cBin oIx (cV 3) (cCallS m_l_draw [] 2 (aCons (cV 0) (aCons (cV 4) (aNil))))))
      (cSeq (cIfS (cOr (cB (cBin oEq (cV 5) (cK (.int 1)))) (cB (cBin oEq (cV 5) (cK (.int 2))))) (cSet 7 (cBin oIx (cV 8) (cK (.int 2)))) (cNx))
      (cSeq (cIfS (cB (cBin oEq (cV 5) (cK (.int 2)))) (cSet 6 (cBin oAdd (cBin oIx (cV 8) (cK (.int 1))) (cK (.int 1)))) (cNx))
      (cIfS (cB (cBin oEq (cV 5) (cK (.int 3)))) (cSet 6 (cBin oIx (cV 8) (cK (.int 0)))) (cNx))))) (cNx) [some (.own 2), some (ti n), some (ti M), some (.own 3), some (ti (done.length : Int)), some (ti r5), some (ti (-6 + r6)), some (ti (1 + r7)), none, none] [c0, c1, srcC s4, .lst (rs.map rowT)] =
        some (.nx, [some (.own 2), some (ti n), some (ti M), some (.own 3), some (ti (done.length : Int)), some (ti r5), some (ti lo), some (ti ma), o8, none], [c0, c1, srcC s5, .lst (rs.map rowT)]) := by
      by_cases hz : done = []
      · exact ⟨s4, -6 + r6, 1 + r7, none, by omega, by simp [hz]⟩
      · have hp : 0 < done.length := List.length_pos_iff.mpr hz
        have hp' : (0 : Int) < (done.length : Int) := by omega
        have d4 := draw_ok (p := 2) (n := (done.length : Int)) (S := [c0, c1, srcC s4, .lst (rs.map rowT)]) (s := s4) rfl hp' (by omega)
        have u0 := dR_nn s4 hp'
        have u1 := dR_lt s4 hp'
        generalize dR s4 (done.length : Int) = r8 at d4 u0 u1
        generalize dS s4 (done.length : Int) = s5 at d4
        have hlt : r8.toNat < rs.length := by omega
        have ix : atI (rs.map rowT) r8 = some (rowT rs[r8.toNat]) := by
          rw [atI_ge _ _ u0, List.getElem?_map, List.getElem?_eq_getElem hlt]; rfl
        have mm := hm _ (List.getElem_mem hlt)
        generalize rs[r8.toNat] = o at ix mm
        have oi : ∀ s5, oIx (.own 3) (ti r8) [c0, c1, srcC s5, .lst (rs.map rowT)] = some (rowT o, [c0, c1, srcC s5, .lst (rs.map rowT)]) := fun s5 => by rw [oIx_own (ts := rs.map rowT) rfl, ix]; rfl
        simp at d4
        by_cases c1 : r5 = 1
        · exact ⟨s5, -6 + r6, o.2.2, some (rowT o), ⟨mm.1.2, mm.2⟩, by simp [hp, d4, oi, c1]⟩
        · by_cases c2 : r5 = 2
          · exact ⟨s5, o.2.1 + 1, o.2.2, some (rowT o), ⟨mm.1.2, mm.2⟩, by simp [hp, d4, oi, c2]⟩
          · by_cases c3 : r5 = 3
            · exact ⟨s5, o.1, 1 + r7, some (rowT o), by omega, by simp [hp, d4, oi, c3]⟩
            · exact ⟨s5, -6 + r6, 1 + r7, some (rowT o), by omega, by simp [hp, d4, oi, c1, c2, c3]⟩
    refine seq_ex e4 ?_
    clear e4 d1 d2 d3
    obtain ⟨lo', e5⟩ : ∃ lo' : Int, cIfS (cB (cBin oGt (cV 6) (cK (.int 12)))) (cSet 6 (cBin oSub (cV 6) (cK (.int 18)))) (cNx) [some (.own 2), some (ti n), some (ti M), some (.own 3), some (ti (done.length : Int)), some (ti r5), some (ti lo), some (ti ma), o8, none] [c0, c1, srcC s5, .lst (rs.map rowT)] =
        some (.nx, [some (.own 2), some (ti n), some (ti M), some (.own 3), some (ti (done.length : Int)), some (ti r5), some (ti lo'), some (ti ma), o8, none], [c0, c1, srcC s5, .lst (rs.map rowT)]) := by
      by_cases c : 12 < lo
      · exact ⟨lo - 18, by simp [c]⟩
      · exact ⟨lo, by simp [c]⟩
    refine seq_ex e5 ?_
    have d5 := draw_ok (p := 2) (n := 6) (S := [c0, c1, srcC s5, .lst (rs.map rowT)]) (s := s5) rfl (by decide) (by decide)
    have v0 := dR_nn s5 (n := 6) (by decide)
    have v1 := dR_lt s5 (n := 6) (by decide)
    generalize dR s5 6 = r9 at d5 v0 v1
    generalize dS s5 6 = s6 at d5
    have d6 := draw_ok (p := 2) (n := 1 + r9) (S := [c0, c1, srcC s6, .lst (rs.map rowT)]) (s := s6) rfl (by omega) (by omega)
    have w0 := dR_nn s6 (n := 1 + r9) (by omega)
    generalize dR s6 (1 + r9) = wd at d6 w0
    generalize dS s6 (1 + r9) = s7 at d6
    refine seq_ex (σ' := [some (.own 2), some (ti n), some (ti M), some (.own 3), some (ti (done.length : Int)), some (ti r5), some (ti lo'), some (ti ma), o8, some (ti wd)]) (S' := [c0, c1, srcC s7, .lst (rs.map rowT)]) (by simp at d5 d6; simp [d5, d6]) ?_
    have il := isLst_own (S := [c0, c1, srcC s7, .lst (rs.map rowT)]) (p := 3) (ts := rs.map rowT) rfl
    have ap := append_ok (S := [c0, c1, srcC s7, .lst (rs.map rowT)]) (p := 3) (ts := rs.map rowT) (t := rowT (lo', lo' + wd, ma)) rfl (by rw [List.length_map]; omega)
    refine ⟨_, _, by simp [mtK_s il, ap]; exact ⟨rfl, rfl⟩, s7, rs ++ [(lo', lo' + wd, ma)], by simp [hl], fun r hr => ?_, rfl, ?_⟩
    · rcases List.mem_append.mp hr with hr | hr
      · exact hm r hr
      · rw [List.mem_singleton.mp hr]; exact ⟨⟨by show lo' ≤ lo' + wd; omega, hma.1⟩, hma.2⟩
    · rw [List.map_append]; rfl
end Lw
namespace Lw
open PySem PySem.Spec PyProof.Rows L2 FL
theorem wf_cs : ∀ (S : Cs), (∀ c ∈ S, ∃ s : Int × Int, c = srcC s) → WfS S := fun S h => by
  unfold WfS
  exact List.all_eq_true.mpr fun c hc => let ⟨s, e⟩ := h c hc; by rw [e]; rfl
theorem moved_ok {s0 s : Int × Int} {rs : List R3} (hm : ∀ r ∈ rs, Mass 99 r) (hl : rs.length ≤ 41) :
    ∃ (s' : Int × Int) (rs' : List R3), rs'.length = rs.length ∧ (∀ r ∈ rs', Mass 99 r) ∧ callTK m_l_moved 2 (some ([.own 1, .d (rowsD rs)], [srcC s0, srcC s])) = some (.d (rowsD rs'), [srcC s0, srcC s']) := by
  have w2 : ∀ s' : Int × Int, WfS [srcC s0, srcC s'] := fun s' => wf_cs _ (by simp)
  have d1 := draw_ok (p := 1) (n := 4) (S := [srcC s0, srcC s]) (s := s) rfl (by decide) (by decide)
  generalize dR s 4 = r1 at d1
  generalize dS s 4 = s1 at d1
  simp at d1
  by_cases c1 : 1 < r1
  · refine ⟨s1, rs, rfl, hm, callTK_s (G := []) rfl ?_ rfl (w2 _)⟩
    simp [m_l_moved, d1, c1]
  -- two distances
  obtain ⟨s2, v1, f1⟩ := far_ok (p := 1) (S := [srcC s0, srcC s1]) (s := s1) rfl
  simp at f1
  obtain ⟨s3, v2, e1⟩ : ∃ (s3 : Int × Int) (v2 : Int), cIfS (cB (cBin oEq (cV 2) (cK (.int 1)))) (cSet 4 (cCallS m_l_far [] 1 (aCons (cV 0) (aNil)))) (cNx) [some (.own 1), some (.d (rowsD rs)), some (ti r1), some (ti v1), some (ti v1), none, none, none, none] [srcC s0, srcC s2] =
      some (.nx, [some (.own 1), some (.d (rowsD rs)), some (ti r1), some (ti v1), some (ti v2), none, none, none, none], [srcC s0, srcC s3]) := by
    by_cases c : r1 = 1
    · obtain ⟨s3, v2, f2⟩ := far_ok (p := 1) (S := [srcC s0, srcC s2]) (s := s2) rfl
      simp at f2
      exact ⟨s3, v2, by simp [c, f2]⟩
    · exact ⟨s2, v1, by simp [c]⟩
  obtain ⟨u, v, huv, hle⟩ : ∃ u v : Int, srt [v1, v2] = [u, v] ∧ u ≤ v := by
    have h1 := (srt_perm [v1, v2]).length_eq
    have h2 := srt_le [v1, v2]
    generalize srt [v1, v2] = l at h1 h2
    match l, h1, h2 with
    | [u, v], _, h2 => exact ⟨u, v, rfl, by simpa using h2⟩
  have so := bSortI_own (S := [srcC s0, srcC s3, .lst [ti v1, ti v2]]) (p := 2) (ns := [v1, v2]) rfl
  rw [huv] at so
  let mv : List T := [ti u, ti v]
  have loop := loop_go (g := gN 7) (body := (cSeq (cSet 8 (cCallS m_l_draw [] 2 (aCons (cV 0) (aCons (cK (.int 3)) (aNil)))))
      (cDrop (cMt mAppend (cV 6) (aCons (cTup (aCons (cBin oAdd (cBin oIx (cV 7) (cK (.int 0))) (cBin oIx (cV 5) (cBin oDiv (cV 8) (cK (.int 2))))) (aCons (cBin oAdd (cBin oIx (cV 7) (cK (.int 1))) (cBin oIx (cV 5) (cCB bMin2 (aCons (cV 8) (aCons (cK (.int 1)) (aNil)))))) (aCons (cBin oIx (cV 7) (cK (.int 2))) (aNil))))) (aNil)))))) (cl := [7, 8]) (gs := [])
    (σ := [some (.own 1), some (.d (rowsD rs)), some (ti r1), some (ti v1), some (ti v2), some (.own 3), some (.own 4), none, none]) (S := [srcC s0, srcC s3, .lst [ti v1, ti v2], .lst [ti u, ti v], .lst []]) (fun r : R3 => .one (rowT r))
    (fun done σ S => ∃ (s' : Int × Int) (rs' : List R3), rs'.length = done.length ∧ (∀ r ∈ rs', Mass 99 r) ∧ σ = [some (.own 1), some (.d (rowsD rs)), some (ti r1), some (ti v1), some (ti v2), some (.own 3), some (.own 4), none, none] ∧ S = [srcC s0, srcC s', .lst [ti v1, ti v2], .lst [ti u, ti v], .lst (rs'.map rowT)]) (fun _ _ _ _ => trivial) rs ?_ ⟨s3, [], rfl, by simp, rfl, rfl⟩
  · obtain ⟨σ', S', e, s', rs', hl', hm', rfl, rfl⟩ := loop
    refine ⟨s', rs', hl', hm', callTK_l (S1 := [srcC s0, srcC s', .lst [ti v1, ti v2], .lst [ti u, ti v], .lst (rs'.map rowT)]) (j := 4) (G := [.lst [ti v1, ti v2], .lst [ti u, ti v], .frz (rowsD rs')]) rfl ?_ (by simp) ?_ rfl (w2 _)⟩
    · unfold m_l_moved
      rw [fnM_ap, cSeq_ap]
      have st : startT 9 [.own 1, .d (rowsD rs)] = [some (.own 1), some (.d (rowsD rs)), none, none, none, none, none, none, none] := rfl
      rw [st]
      have a1 : cSet 2 (cCallS m_l_draw [] 2 (aCons (cV 0) (aCons (cK (.int 4)) (aNil)))) [some (.own 1), some (.d (rowsD rs)), none, none, none, none, none, none, none] [srcC s0, srcC s] = some (.nx, [some (.own 1), some (.d (rowsD rs)), some (ti r1), none, none, none, none, none, none], [srcC s0, srcC s1]) := by simp [d1]
      rw [a1, seqK_nx, cSeq_ap]
      have a2 : cIfS (cB (cBin oGt (cV 2) (cK (.int 1)))) (cRet (cV 1)) (cNx) [some (.own 1), some (.d (rowsD rs)), some (ti r1), none, none, none, none, none, none] [srcC s0, srcC s1] = some (.nx, [some (.own 1), some (.d (rowsD rs)), some (ti r1), none, none, none, none, none, none], [srcC s0, srcC s1]) := by simp [c1]
      rw [a2, seqK_nx, cSeq_ap]
      have a3 : cSet 3 (cCallS m_l_far [] 1 (aCons (cV 0) (aNil))) [some (.own 1), some (.d (rowsD rs)), some (ti r1), none, none, none, none, none, none] [srcC s0, srcC s1] = some (.nx, [some (.own 1), some (.d (rowsD rs)), some (ti r1), some (ti v1), none, none, none, none, none], [srcC s0, srcC s2]) := by simp [f1]
      rw [a3, seqK_nx, cSeq_ap]
      show fnK (seqK (some (.nx, [some (.own 1), some (.d (rowsD rs)), some (ti r1), some (ti v1), some (ti v1), none, none, none, none], [srcC s0, srcC s2])) _) = _
      rw [seqK_nx, cSeq_ap, e1, seqK_nx, cSeq_ap]
      have a5 : cSet 5 (cCB bSortI (aCons (cLst (aCons (cV 3) (aCons (cV 4) (aNil)))) (aNil))) [some (.own 1), some (.d (rowsD rs)), some (ti r1), some (ti v1), some (ti v2), none, none, none, none] [srcC s0, srcC s3] = some (.nx, [some (.own 1), some (.d (rowsD rs)), some (ti r1), some (ti v1), some (ti v2), some (.own 3), none, none, none], [srcC s0, srcC s3, .lst [ti v1, ti v2], .lst [ti u, ti v]]) := by
        simp at so
        simp [so]
      rw [a5, seqK_nx, cSeq_ap]
      show fnK (seqK (some (.nx, [some (.own 1), some (.d (rowsD rs)), some (ti r1), some (ti v1), some (ti v2), some (.own 3), some (.own 4), none, none], [srcC s0, srcC s3, .lst [ti v1, ti v2], .lst [ti u, ti v], .lst []])) _) = _
      rw [seqK_nx, cSeq_ap, cFor_ap, iE_ap]
      show fnK (seqK (forK (iEK (some (.d (rowsD rs), _))) _ _ _ _) _) = _
      rw [iEK_s, seqG_lst, ← rowT_map]
      show fnK (seqK (forK (some ((rs.map rowT).map .one, [], _)) _ _ _ _) _) = _
      rw [forK_s, List.map_map]
      show fnK (seqK (loopF _ _ _ _ (rs.map fun r : R3 => .one (rowT r)) [some (.own 1), some (.d (rowsD rs)), some (ti r1), some (ti v1), some (ti v2), some (.own 3), some (.own 4), none, none] _) _) = _
      rw [e, seqK_nx]
      rfl
    · exact toD_own (p := 4) (ds := rs'.map rowD) (by rw [← rowT_map]; rfl)
  · rintro done r rest σ S er ⟨s', rs', hl', hm', rfl, rfl⟩
    have hd : done.length ≤ 41 := by rw [er] at hl; simp at hl; omega
    have hr := hm r (by rw [er]; simp)
    refine ⟨_, _, gN_one, ?_⟩
    show ∃ σ2 S2, (cSeq _ _) [some (.own 1), some (.d (rowsD rs)), some (ti r1), some (ti v1), some (ti v2), some (.own 3), some (.own 4), some (rowT r), none] [srcC s0, srcC s', .lst [ti v1, ti v2], .lst [ti u, ti v], .lst (rs'.map rowT)] = some (.nx, σ2, S2) ∧ _
    have d2 := draw_ok (p := 1) (n := 3) (S := [srcC s0, srcC s', .lst [ti v1, ti v2], .lst [ti u, ti v], .lst (rs'.map rowT)]) (s := s') rfl (by decide) (by decide)
    have q0 := dR_nn s' (n := 3) (by decide)
    have q1 := dR_lt s' (n := 3) (by decide)
    generalize dR s' 3 = g at d2 q0 q1
    generalize dS s' 3 = s4 at d2
    refine seq_ex (σ' := [some (.own 1), some (.d (rowsD rs)), some (ti r1), some (ti v1), some (ti v2), some (.own 3), some (.own 4), some (rowT r), some (ti g)]) (S' := [srcC s0, srcC s4, .lst [ti v1, ti v2], .lst [ti u, ti v], .lst (rs'.map rowT)]) (by simp at d2; simp [d2]) ?_
    obtain ⟨a, b, ha, hb, hab⟩ : ∃ a b : Int, atI [ti u, ti v] (g / 2) = some (ti a) ∧ atI [ti u, ti v] (if 1 < g then 1 else g) = some (ti b) ∧ a ≤ b := by
      have : g = 0 ∨ g = 1 ∨ g = 2 := by omega
      rcases this with rfl | rfl | rfl
      · exact ⟨u, u, rfl, rfl, Int.le_refl _⟩
      · exact ⟨u, v, rfl, rfl, hle⟩
      · exact ⟨v, v, rfl, rfl, Int.le_refl _⟩
    have hmin : bMin2 [ti g, ti 1] [srcC s0, srcC s4, .lst [ti v1, ti v2], .lst [ti u, ti v], .lst (rs'.map rowT)] = some (ti (if 1 < g then 1 else g), [srcC s0, srcC s4, .lst [ti v1, ti v2], .lst [ti u, ti v], .lst (rs'.map rowT)]) := rfl
    have i1 : oIx (.own 3) (ti (g / 2)) [srcC s0, srcC s4, .lst [ti v1, ti v2], .lst [ti u, ti v], .lst (rs'.map rowT)] = some (ti a, [srcC s0, srcC s4, .lst [ti v1, ti v2], .lst [ti u, ti v], .lst (rs'.map rowT)]) := by rw [oIx_own (ts := [ti u, ti v]) rfl, ha]; rfl
    have i2 : oIx (.own 3) (ti (if 1 < g then 1 else g)) [srcC s0, srcC s4, .lst [ti v1, ti v2], .lst [ti u, ti v], .lst (rs'.map rowT)] = some (ti b, [srcC s0, srcC s4, .lst [ti v1, ti v2], .lst [ti u, ti v], .lst (rs'.map rowT)]) := by rw [oIx_own (ts := [ti u, ti v]) rfl, hb]; rfl
    have il := isLst_own (S := [srcC s0, srcC s4, .lst [ti v1, ti v2], .lst [ti u, ti v], .lst (rs'.map rowT)]) (p := 4) (ts := rs'.map rowT) rfl
    have ap := append_ok (S := [srcC s0, srcC s4, .lst [ti v1, ti v2], .lst [ti u, ti v], .lst (rs'.map rowT)]) (p := 4) (ts := rs'.map rowT) (t := rowT (r.1 + a, r.2.1 + b, r.2.2)) rfl (by rw [List.length_map]; omega)
    refine ⟨_, _, by simp [mtK_s il, oDiv_int, i1, hmin, i2, ap]; exact ⟨rfl, rfl⟩, s4, rs' ++ [(r.1 + a, r.2.1 + b, r.2.2)], by simp [hl'], fun x hx => ?_, rfl, ?_⟩
    · rcases List.mem_append.mp hx with hx | hx
      · exact hm' x hx
      · rw [List.mem_singleton.mp hx]
        have z1 := hr.1.1
        exact ⟨⟨by show r.1 + a ≤ r.2.1 + b; omega, hr.1.2⟩, hr.2⟩
    · rw [List.map_append]; rfl
end Lw
namespace Lw
open PySem PySem.Spec PyProof.Rows L2 FL
/-! rows as data -/
def pd (r : R3) : PyData := .tuple [.int r.1, .int r.2.1, .int r.2.2]
theorem mapO_pd (k : Nat) (S : Cs) : ∀ rs : List R3, mapO (pyT k S) (rs.map rowT) = some (rs.map pd)
  | [] => rfl
  | r :: rs => by
    show ((pyT k S (rowT r)).bind fun p => (mapO (pyT k S) (rs.map rowT)).map fun q => p :: q) = _
    rw [mapO_pd k S rs]
    cases k <;> rfl
theorem pyDs_pd : ∀ rs : List R3, pyDs (rs.map rowD) = some (rs.map pd)
  | [] => rfl
  | r :: rs => by
    show ((pyD (rowD r)).bind fun p => (pyDs (rs.map rowD)).map fun q => p :: q) = _
    rw [pyDs_pd rs]; rfl
theorem can_pd : ∀ rs : List R3, PyData.canLayAll0 (rs.map pd) = true
  | [] => rfl
  | r :: rs => by
    show (PyData.canLay0 (pd r) && PyData.canLayAll0 (rs.map pd)) = true
    rw [can_pd rs]; rfl
theorem depth_pd : ∀ rs : List R3, PyData.depthAll (rs.map pd) ≤ 1
  | [] => Nat.zero_le _
  | r :: rs => by
    show max (PyData.depth (pd r)) (PyData.depthAll (rs.map pd)) ≤ 1
    exact Nat.max_le.mpr ⟨Nat.le_refl _, depth_pd rs⟩
theorem eqv_pd : ∀ rs : List R3, PyData.eqvAll (rs.map pd) (rs.map pd) = true
  | [] => by simp [PyData.eqvAll]
  | r :: rs => by
    simp only [List.map_cons, PyData.eqvAll, eqv_pd rs]
    simp [pd, PyData.eqv, PyData.eqvAll]
theorem shaped_pd (rs : List R3) : SeqAt.shaped (.list (rs.map pd)) = true := by
  unfold SeqAt.shaped
  have h1 : PyData.canLay0 (.list (rs.map pd)) = true := can_pd rs
  have h2 : PyData.depth (.list (rs.map pd)) ≤ 64 := by
    show PyData.depthAll (rs.map pd) + 1 ≤ 64
    have := depth_pd rs
    omega
  rw [h1, decide_eq_true h2]; rfl
theorem eq_rows {S : Cs} {p : Nat} {rs : List R3} (h : S[p]? = some (.lst (rs.map rowT))) : eqT (.own p) (.d (rowsD rs)) S = some true := by
  refine eqT_same (p := .list (rs.map pd)) ?_ ?_ (shaped_pd rs) ?_
  · show (match S[p]? with
      | some (.frz d) => pyD d
      | some (.lst ts) => (mapO (pyT 3 S) ts).map PyData.list
      | _ => none) = _
    rw [h]
    show (mapO (pyT 3 S) (rs.map rowT)).map PyData.list = _
    rw [mapO_pd]; rfl
  · show (pyDs (rs.map rowD)).map PyData.list = _
    rw [pyDs_pd]; rfl
  · show PyData.eqv (.list (rs.map pd)) (.list (rs.map pd)) = true
    rw [PyData.eqv, eqv_pd]
/-! what is handed -/
def Hd (rs : List R3) (x : T) (c : Cell) : Prop := (x = .own 1 ∧ (c = .lst (rs.map rowT) ∨ c = .frz (rowsD rs))) ∨ (x = .d (.tup (rs.map rowD)) ∧ c = .lst (rs.map rowT))
theorem hd_d {rs : List R3} {x : T} {c : Cell} (h : Hd rs x c) (s : Int × Int) : ∃ (d : D) (c' : Cell), toDs [x] [srcC s, c] = some ([d], [srcC s, c']) ∧ IsRows (.d d) rs ∧ Hd rs x c' ∧ ∃ b, seqOf x [srcC s, c'] = some (b, rs.map rowT) := by
  rcases h with ⟨rfl, rfl | rfl⟩ | ⟨rfl, rfl⟩
  · refine ⟨rowsD rs, .frz (rowsD rs), ?_, isRows_lst rs, .inl ⟨rfl, .inr rfl⟩, false, by rw [rowT_map]; rfl⟩
    show ((toD dep (.own 1) [srcC s, .lst (rs.map rowT)]).bind fun p => (mapS (toD dep) id [] p.2).map fun q => (p.1 :: q.1, q.2)) = _
    rw [toD_own (p := 1) (ds := rs.map rowD) (by rw [← rowT_map]; rfl)]
    rfl
  · exact ⟨rowsD rs, .frz (rowsD rs), rfl, isRows_lst rs, .inl ⟨rfl, .inr rfl⟩, false, by rw [rowT_map]; rfl⟩
  · exact ⟨.tup (rs.map rowD), .lst (rs.map rowT), rfl, isRows_tup rs, .inr ⟨rfl, rfl⟩, true, by rw [rowT_map]; rfl⟩
theorem cb_rows (k : Nat) (rs : List R3) : cellBelow k (.lst (rs.map rowT)) = true := by
  show (rs.map rowT).all (below k) = true
  rw [rowT_map]; exact all_d k _
theorem wf_hd {rs : List R3} {x : T} {c : Cell} (h : Hd rs x c) (s : Int × Int) : WfS [srcC s, c] := by
  have hc : cellBelow 2 c = true := by
    rcases h with ⟨_, rfl | rfl⟩ | ⟨_, rfl⟩
    · exact cb_rows 2 rs
    · rfl
    · exact cb_rows 2 rs
  show ([srcC s, c] : Cs).all (cellBelow 2) = true
  simp only [List.all_cons, List.all_nil, cb_src, hc, Bool.and_self]
theorem turn_ok {rs : List R3} {x : T} {c : Cell} {s : Int × Int} {lo hi : Int} {a0 a1 a2 a3 a6 a10 a11 a12 a13 a14 : Option T} (hd : Hd rs x c) (h : ∀ r ∈ rs, Mass 99 r) (hl : rs.length ≤ 41) (h2 : 2 ≤ (srt (bnds rs)).length) (hlo : (srt (bnds rs))[(srt (bnds rs)).length / 2 - 1]? = some lo) (hhi : (srt (bnds rs))[(srt (bnds rs)).length / 2]? = some hi) :
    ∃ c', Hd rs x c' ∧ cIfS (cOr (cNot (cB (cCallP m_l_same [] 2 (aCons (cCallP m_middle_span [] 1 (aCons (cV 5) (aNil))) (aCons (cTup (aCons (cV 9) (aCons (cV 7) (aCons (cV 8) (aNil))))) (aNil)))))) (cTrimB (cB (cBin oNe (cCB bListA (aCons (cV 5) (aNil))) (cV 4))))) (cRet (cK (.bl false))) (cNx)
      [a0, a1, a2, a3, some (.d (rowsD rs)), some x, a6, some (ti lo), some (ti hi), some (ti (cost rs lo)), a10, a11, a12, a13, a14] [srcC s, c] =
      some (.nx, [a0, a1, a2, a3, some (.d (rowsD rs)), some x, a6, some (ti lo), some (ti hi), some (ti (cost rs lo)), a10, a11, a12, a13, a14], [srcC s, c']) := by
  obtain ⟨d, c', e1, hr, hd', b, sq⟩ := hd_d hd s
  obtain ⟨S1, e2⟩ := middle_ok hr h hl h2 hlo hhi
  obtain ⟨S2, e3⟩ := same_ok (cost rs lo) lo hi
  have e4 := bListA_seq sq
  have e5 := oNe_of (eq_rows (S := [srcC s, c', .lst (rs.map rowT)]) (p := 2) (rs := rs) rfl)
  have e6 := trimB_s (k := 2) (b := false) (S' := [srcC s, c']) (G := [.lst (rs.map rowT)]) rfl (wf_hd hd' s)
  refine ⟨c', hd', ?_⟩
  simp at e4 e5 e6
  simp [e1, e2, e3, e4, e5, e6]
end Lw
namespace Lw
open PySem PySem.Spec PyProof.Rows L2 FL
theorem source_ok (ns : List Int) (k : Nat) : ∃ s, m_l_source [.d (.scr ns), ti (k : Int)] [] = some (.own 0, [srcC s]) := m_source_ok ns k
theorem last_turn {rs : List R3} {S : Cs} {lo hi v : Int} {a0 a1 a2 a3 a5 a6 a10 a11 a12 : Option T} (h : ∀ r ∈ rs, Mass 99 r) (hl : rs.length ≤ 41) (hmed : cost rs lo ≤ cost rs v ∧ (cost rs v = cost rs lo ↔ lo ≤ v ∧ v ≤ hi)) :
    ∃ σ2 S2, (cSeq (cSet 14 (cCallP m_l_cost [] 2 (aCons (cV 4) (aCons (cV 13) (aNil)))))
      (cIfS (cOr (cB (cBin oLt (cV 14) (cV 9))) (cB (cBin oNe (cBin oEq (cV 14) (cV 9)) (cAndV (cBin oLe (cV 7) (cV 13)) (cBin oLe (cV 13) (cV 8)))))) (cRet (cK (.bl false))) (cNx)))
      [a0, a1, a2, a3, some (.d (rowsD rs)), a5, a6, some (ti lo), some (ti hi), some (ti (cost rs lo)), a10, a11, a12, some (ti v), none] S = some (.nx, σ2, S2) ∧
      forget [13, 14] σ2 = [a0, a1, a2, a3, some (.d (rowsD rs)), a5, a6, some (ti lo), some (ti hi), some (ti (cost rs lo)), a10, a11, a12, none, none] ∧ S2 = S := by
  obtain ⟨S1, e1⟩ := l_cost_ok (v := v) (isRows_lst rs) h (by omega)
  obtain ⟨m1, m2⟩ := hmed
  refine seq_ex (σ' := [a0, a1, a2, a3, some (.d (rowsD rs)), a5, a6, some (ti lo), some (ti hi), some (ti (cost rs lo)), a10, a11, a12, some (ti v), some (ti (cost rs v))]) (S' := S) (by simp [e1]) ?_
  refine ⟨[a0, a1, a2, a3, some (.d (rowsD rs)), a5, a6, some (ti lo), some (ti hi), some (ti (cost rs lo)), a10, a11, a12, some (ti v), some (ti (cost rs v))], S, ?_, rfl, rfl⟩
  have n1 : ¬ cost rs v < cost rs lo := by omega
  by_cases h1 : lo ≤ v
  · by_cases h2 : v ≤ hi
    · have := m2.mpr ⟨h1, h2⟩
      simp [h1, h2, this]
    · have : ¬ cost rs v = cost rs lo := fun z => h2 (m2.mp z).2
      simp [n1, h1, h2, this]
  · have : ¬ cost rs v = cost rs lo := fun z => h1 (m2.mp z).1
    simp [n1, h1, this]
theorem law_true (ns : List Int) (h : ns.length ≤ 63) : ∃ S', m_law [.d (.scr ns)] [] = some (.d (.bl true), S') := by
  obtain ⟨s0, hs0⟩ : ∃ s, m_l_source [.d (.scr ns), ti 0] [] = some (.own 0, [srcC s]) := source_ok ns 0
  obtain ⟨sA, hsA⟩ : ∃ s, m_l_source [.d (.scr ns), ti 1] [] = some (.own 0, [srcC s]) := source_ok ns 1
  obtain ⟨sB, hsB⟩ : ∃ s, m_l_source [.d (.scr ns), ti 2] [] = some (.own 0, [srcC s]) := source_ok ns 2
  show ∃ S', fnK (cSeq _ _ [some (.d (.scr ns)), none, none, none, none, none, none, none, none, none, none, none, none, none, none] []) = _
  refine run_nx (σ' := [some (.d (.scr ns)), some (.own 0), none, none, none, none, none, none, none, none, none, none, none, none, none]) (S' := [srcC s0]) (by simp [hs0, callN3_src]) ?_
  have d1 := draw_ok (p := 0) (n := 6) (S := [srcC s0]) (s := s0) rfl (by decide) (by decide)
  have a0 := dR_nn s0 (n := 6) (by decide)
  have a1 := dR_lt s0 (n := 6) (by decide)
  generalize dR s0 6 = r1 at d1 a0 a1
  generalize dS s0 6 = s1 at d1
  refine run_nx (σ' := [some (.d (.scr ns)), some (.own 0), some (ti (1 + r1)), none, none, none, none, none, none, none, none, none, none, none, none]) (S' := [srcC s1]) (by simp at d1; simp [d1]) ?_
  have d2 := draw_ok (p := 0) (n := 8) (S := [srcC s1]) (s := s1) rfl (by decide) (by decide)
  generalize dR s1 8 = r2 at d2
  generalize dS s1 8 = s2 at d2
  have d3 := draw_ok (p := 0) (n := 40) (S := [srcC s2]) (s := s2) rfl (by decide) (by decide)
  have b0 := dR_nn s2 (n := 40) (by decide)
  have b1 := dR_lt s2 (n := 40) (by decide)
  generalize dR s2 40 = r3 at d3 b0 b1
  generalize dS s2 40 = s3 at d3
  obtain ⟨n, s4, n0, n1, e3⟩ : ∃ (n : Int) (s4 : Int × Int), 1 ≤ n ∧ n ≤ 40 ∧ cIfS (cB (cBin oEq (cCallS m_l_draw [] 2 (aCons (cV 1) (aCons (cK (.int 8)) (aNil)))) (cK (.int 0)))) (cSet 2 (cBin oAdd (cK (.int 1)) (cCallS m_l_draw [] 2 (aCons (cV 1) (aCons (cK (.int 40)) (aNil)))))) (cNx)
      [some (.d (.scr ns)), some (.own 0), some (ti (1 + r1)), none, none, none, none, none, none, none, none, none, none, none, none] [srcC s1] =
      some (.nx, [some (.d (.scr ns)), some (.own 0), some (ti n), none, none, none, none, none, none, none, none, none, none, none, none], [srcC s4]) := by
    simp at d2 d3
    by_cases c : r2 = 0
    · exact ⟨1 + r3, s3, by omega, by omega, by simp [d2, c, d3]⟩
    · exact ⟨1 + r1, s2, by omega, by omega, by simp [d2, c]⟩
  refine run_nx e3 ?_
  refine run_nx (σ' := [some (.d (.scr ns)), some (.own 0), some (ti n), some (ti 4), none, none, none, none, none, none, none, none, none, none, none]) (S' := [srcC s4]) (by simp) ?_
  have d4 := draw_ok (p := 0) (n := 4) (S := [srcC s4]) (s := s4) rfl (by decide) (by decide)
  generalize dR s4 4 = r4 at d4
  generalize dS s4 4 = s5 at d4
  obtain ⟨M, m0, m1, e5⟩ : ∃ (M : Int), 1 ≤ M ∧ M ≤ 99 ∧ cIfS (cB (cBin oEq (cCallS m_l_draw [] 2 (aCons (cV 1) (aCons (cK (.int 4)) (aNil)))) (cK (.int 0)))) (cSet 3 (cK (.int 99))) (cNx)
      [some (.d (.scr ns)), some (.own 0), some (ti n), some (ti 4), none, none, none, none, none, none, none, none, none, none, none] [srcC s4] =
      some (.nx, [some (.d (.scr ns)), some (.own 0), some (ti n), some (ti M), none, none, none, none, none, none, none, none, none, none, none], [srcC s5]) := by
    simp at d4
    by_cases c : r4 = 0
    · exact ⟨99, by omega, by omega, by simp [d4, c]⟩
    · exact ⟨4, by omega, by omega, by simp [d4, c]⟩
  refine run_nx e5 ?_
  clear e5 e3 d1 d2 d3 d4
  -- the rows
  obtain ⟨sA', rs0, l0, h0, eE⟩ := estimates_ok (c0 := srcC s5) (c1 := srcC sB) (s := sA) n0 n1 m0 m1
  have cE := callTK_l (n := 3) (m := m_l_estimates) (ts := [.own 2, ti n, ti M]) (S := [srcC s5, srcC sB, srcC sA]) (S' := [srcC s5, srcC sB, srcC sA']) (G := [.frz (rowsD rs0)]) rfl eE (Nat.le_refl _) (toD_own (p := 3) (ds := rs0.map rowD) (by rw [← rowT_map]; rfl)) rfl (wf_cs _ (by simp))
  have tE := trimT_s (k := 2) (d := rowsD rs0) (S' := [srcC s5, srcC sB]) (G := [srcC sA']) rfl (wf_cs _ (by simp))
  obtain ⟨sB', rs, l1, h1, eM⟩ := moved_ok (s0 := s5) (s := sB) (rs := rs0) (fun r hr => ⟨(h0 r hr).1, by have := (h0 r hr).2; omega⟩) (by omega)
  have tM := trimT_s (k := 1) (d := rowsD rs) (S' := [srcC s5]) (G := [srcC sB']) rfl (wf_cs _ (by simp))
  have hl : rs.length ≤ 40 := by omega
  have hne : rs ≠ [] := fun z => by rw [z] at l1; simp at l1; omega
  refine run_nx (σ' := [some (.d (.scr ns)), some (.own 0), some (ti n), some (ti M), some (.d (rowsD rs)), none, none, none, none, none, none, none, none, none, none]) (S' := [srcC s5]) (by
    rw [cSet_ap]
    have z1 : cCallN m_l_source [] 2 (aCons (cV 0) (aCons (cK (.int 1)) (aNil))) [some (.d (.scr ns)), some (.own 0), some (ti n), some (ti M), none, none, none, none, none, none, none, none, none, none, none] [srcC s5, srcC sB] = some (.own 2, [srcC s5, srcC sB, srcC sA]) := by simp [hsA, callN3_src]
    have z2 : cCallN m_l_source [] 2 (aCons (cV 0) (aCons (cK (.int 2)) (aNil))) [some (.d (.scr ns)), some (.own 0), some (ti n), some (ti M), none, none, none, none, none, none, none, none, none, none, none] [srcC s5] = some (.own 1, [srcC s5, srcC sB]) := by simp [hsB, callN3_src]
    have z3 : cTrim (cCallT m_l_estimates [] 3 (aCons (cCallN m_l_source [] 2 (aCons (cV 0) (aCons (cK (.int 1)) (aNil)))) (aCons (cV 2) (aCons (cV 3) (aNil))))) [some (.d (.scr ns)), some (.own 0), some (ti n), some (ti M), none, none, none, none, none, none, none, none, none, none, none] [srcC s5, srcC sB] = some (.d (rowsD rs0), [srcC s5, srcC sB]) := by
      rw [cTrim_ap, cCallT_ap, aCons_ap, z1, consK_s]
      show trimT 2 (callTK m_l_estimates 3 (some ([.own 2, ti n, ti M], _))) = _
      rw [cE]
      exact tE
    rw [cTrim_ap, cCallT_ap, aCons_ap, z2, consK_s, aCons_ap, z3, consK_s]
    show setK 4 (trimT 1 (callTK m_l_moved 2 (some ([.own 1, .d (rowsD rs0)], _)))) _ = _
    rw [eM]
    show setK 4 (trimT 1 (some (.d (rowsD rs), [srcC s5] ++ [srcC sB']))) _ = _
    rw [tM]
    rfl) ?_
  clear eM tM cE tE eE
  -- the list that is handed
  have bl := bListA_seq (S := [srcC s5]) (x := .d (rowsD rs)) (b := false) (ts := rs.map rowT) (by rw [rowT_map]; rfl)
  refine run_nx (σ' := [some (.d (.scr ns)), some (.own 0), some (ti n), some (ti M), some (.d (rowsD rs)), some (.own 1), none, none, none, none, none, none, none, none, none]) (S' := [srcC s5, .lst (rs.map rowT)]) (by
    rw [cSet_ap, cCB_ap]
    show setK 5 (bOr bList bListR [.d (rowsD rs)] [srcC s5]) _ = _
    rw [bl]
    rfl) ?_
  have d6 := draw_ok (p := 0) (n := 2) (S := [srcC s5, .lst (rs.map rowT)]) (s := s5) rfl (by decide) (by decide)
  generalize dR s5 2 = r6 at d6
  generalize dS s5 2 = s6 at d6
  obtain ⟨x, hd, e7⟩ : ∃ x, Hd rs x (.lst (rs.map rowT)) ∧ cIfS (cB (cBin oEq (cCallS m_l_draw [] 2 (aCons (cV 1) (aCons (cK (.int 2)) (aNil)))) (cK (.int 1)))) (cSet 5 (cCB bTuple (aCons (cV 4) (aNil)))) (cNx)
      [some (.d (.scr ns)), some (.own 0), some (ti n), some (ti M), some (.d (rowsD rs)), some (.own 1), none, none, none, none, none, none, none, none, none] [srcC s5, .lst (rs.map rowT)] =
      some (.nx, [some (.d (.scr ns)), some (.own 0), some (ti n), some (ti M), some (.d (rowsD rs)), some x, none, none, none, none, none, none, none, none, none], [srcC s6, .lst (rs.map rowT)]) := by
    have d6' : m_l_draw [.own 0, ti 2] [srcC s5, .lst (rs.map rowT)] = some (ti r6, [srcC s6, .lst (rs.map rowT)]) := d6
    by_cases c : r6 = 1
    · have bt : bTuple [.d (rowsD rs)] [srcC s6, .lst (rs.map rowT)] = some (.d (.tup (rs.map rowD)), [srcC s6, .lst (rs.map rowT)]) := by
        show (toDs ((rs.map rowD).map T.d) _).map _ = _
        rw [toDs_d]; rfl
      refine ⟨.d (.tup (rs.map rowD)), .inr ⟨rfl, rfl⟩, ?_⟩
      simp [d6', c, bt]
    · exact ⟨.own 1, .inl ⟨rfl, .inl rfl⟩, by simp [d6', c]⟩
  refine run_nx e7 ?_
  clear e7 d6 bl
  -- the bounds
  obtain ⟨lo, hi, hlo, hhi, h2, med⟩ := median (rs := rs) (fun r hr => (h1 r hr).1) hne
  obtain ⟨S8, e8, g8⟩ := l_bounds_ok (isRows_lst rs) h1 (by omega)
  rw [map_ti] at g8
  have c8 := callP3_o (S := [srcC s6, .lst (rs.map rowT)]) (S1 := S8) (toD_own g8)
  rw [← e8] at c8
  have l1 := at_lo h2 hlo
  have l2 := at_hi hhi
  refine run_nx (σ' := [some (.d (.scr ns)), some (.own 0), some (ti n), some (ti M), some (.d (rowsD rs)), some x, some (.d (.lst ((srt (bnds rs)).map D.int))), none, none, none, none, none, none, none, none]) (S' := [srcC s6, .lst (rs.map rowT)]) (by simp [c8]) ?_
  refine run_nx (σ' := [some (.d (.scr ns)), some (.own 0), some (ti n), some (ti M), some (.d (rowsD rs)), some x, some (.d (.lst ((srt (bnds rs)).map D.int))), some (ti lo), none, none, none, none, none, none, none]) (S' := [srcC s6, .lst (rs.map rowT)]) (by
    simp only [List.map_map] at l1
    simp [oDiv_int, l1]) ?_
  refine run_nx (σ' := [some (.d (.scr ns)), some (.own 0), some (ti n), some (ti M), some (.d (rowsD rs)), some x, some (.d (.lst ((srt (bnds rs)).map D.int))), some (ti lo), some (ti hi), none, none, none, none, none, none]) (S' := [srcC s6, .lst (rs.map rowT)]) (by
    simp only [List.map_map] at l2
    simp [oDiv_int, l2]) ?_
  obtain ⟨S9, e9⟩ := l_cost_ok (v := lo) (isRows_lst rs) h1 (by omega)
  refine run_nx (σ' := [some (.d (.scr ns)), some (.own 0), some (ti n), some (ti M), some (.d (rowsD rs)), some x, some (.d (.lst ((srt (bnds rs)).map D.int))), some (ti lo), some (ti hi), some (ti (cost rs lo)), none, none, none, none, none]) (S' := [srcC s6, .lst (rs.map rowT)]) (by simp [e9]) ?_
  clear e9 c8 l1 l2 e8 g8
  -- asked twice
  generalize hbd : some (T.d (.lst ((srt (bnds rs)).map D.int))) = o6
  have hr2 : ∀ σ S, iRange1 (aCons (cK (.int 2)) (aNil)) σ S = some (itR 0 2, [], S) := fun σ S => iRange1_s (by simp) ⟨by decide, by decide⟩
  obtain ⟨c', hd', e10⟩ : ∃ c', Hd rs x c' ∧ cFor (iRange1 (aCons (cK (.int 2)) (aNil))) (gN 10) (cIfS (cOr (cNot (cB (cCallP m_l_same [] 2 (aCons (cCallP m_middle_span [] 1 (aCons (cV 5) (aNil))) (aCons (cTup (aCons (cV 9) (aCons (cV 7) (aCons (cV 8) (aNil))))) (aNil)))))) (cTrimB (cB (cBin oNe (cCB bListA (aCons (cV 5) (aNil))) (cV 4))))) (cRet (cK (.bl false))) (cNx)) [10]
      [some (.d (.scr ns)), some (.own 0), some (ti n), some (ti M), some (.d (rowsD rs)), some x, o6, some (ti lo), some (ti hi), some (ti (cost rs lo)), none, none, none, none, none] [srcC s6, .lst (rs.map rowT)] =
      some (.nx, [some (.d (.scr ns)), some (.own 0), some (ti n), some (ti M), some (.d (rowsD rs)), some x, o6, some (ti lo), some (ti hi), some (ti (cost rs lo)), none, none, none, none, none], [srcC s6, c']) := by
    have loop := loop_go (g := gN 10) (body := cIfS (cOr (cNot (cB (cCallP m_l_same [] 2 (aCons (cCallP m_middle_span [] 1 (aCons (cV 5) (aNil))) (aCons (cTup (aCons (cV 9) (aCons (cV 7) (aCons (cV 8) (aNil))))) (aNil)))))) (cTrimB (cB (cBin oNe (cCB bListA (aCons (cV 5) (aNil))) (cV 4))))) (cRet (cK (.bl false))) (cNx)) (cl := [10]) (gs := [])
      (σ := [some (.d (.scr ns)), some (.own 0), some (ti n), some (ti M), some (.d (rowsD rs)), some x, o6, some (ti lo), some (ti hi), some (ti (cost rs lo)), none, none, none, none, none]) (S := [srcC s6, .lst (rs.map rowT)]) (fun i : Int => .one (ti i))
      (fun done σ S => ∃ c', Hd rs x c' ∧ σ = [some (.d (.scr ns)), some (.own 0), some (ti n), some (ti M), some (.d (rowsD rs)), some x, o6, some (ti lo), some (ti hi), some (ti (cost rs lo)), none, none, none, none, none] ∧ S = [srcC s6, c']) (fun _ _ _ _ => trivial) (rangeL 0 2) ?_ ⟨_, hd, rfl, rfl⟩
    · obtain ⟨σ', S', e, c', hd', rfl, rfl⟩ := loop
      refine ⟨c', hd', ?_⟩
      rw [cFor_ap, hr2, forK_s, itR_enc]
      exact e
    · rintro done i rest σ S er ⟨c, hc, rfl, rfl⟩
      refine ⟨_, _, gN_one, ?_⟩
      obtain ⟨c', hc', e⟩ := turn_ok (s := s6) (a0 := some (.d (.scr ns))) (a1 := some (.own 0)) (a2 := some (ti n)) (a3 := some (ti M)) (a6 := o6) (a10 := some (ti i)) (a11 := none) (a12 := none) (a13 := none) (a14 := none) hc h1 (by omega) h2 hlo hhi
      exact ⟨_, _, e, c', hc', rfl, rfl⟩
  refine run_nx e10 ?_
  clear e10
  -- the values
  obtain ⟨S11, ms, e11, g11, lm⟩ := marks_ok (isRows_lst rs) (by omega)
  rw [map_ti] at g11
  have c11 := callP3_o (S := [srcC s6, c']) (S1 := S11) (toD_own g11)
  rw [← e11] at c11
  have hr3 : ∀ σ S, iRange2 (aCons (cBin oSub (cK (.int 0)) (cK (.int 3))) (aCons (cK (.int 12)) (aNil))) σ S = some (itR (-3) 12, [], S) := fun σ S => iRange2_s (by simp) (by decide) (by decide)
  have co := cComp_rngA (σ := [some (.d (.scr ns)), some (.own 0), some (ti n), some (ti M), some (.d (rowsD rs)), some x, o6, some (ti lo), some (ti hi), some (ti (cost rs lo)), none, none, none, none, none]) (S := [srcC s6, c']) (g := gN 12) (f := cBin oAdd (cV 7) (cV 12)) (vs := [12]) (fun y => ti (lo + y)) (hr3 _ _) (by decide) fun y hy =>
    ⟨[some (.d (.scr ns)), some (.own 0), some (ti n), some (ti M), some (.d (rowsD rs)), some x, o6, some (ti lo), some (ti hi), some (ti (cost rs lo)), none, none, some (ti y), none, none], by simp, by simp⟩
  have lr : ((rangeL (-3) 12).map fun y => lo + y).length = 15 := by rw [List.length_map, rangeL_len]; rfl
  have er : (rangeL (-3) 12).map (fun y => ti (lo + y)) = ((rangeL (-3) 12).map fun y => lo + y).map ti := by rw [List.map_map]; rfl
  rw [er] at co
  generalize (rangeL (-3) 12).map (fun y => lo + y) = m2 at co lr
  have oc : ∀ (d : D) (ns : List Int) (us : List Int) (S : Cs) (p : Nat), d = .lst (ns.map D.int) → S[p]? = some (.lst (us.map ti)) → ns.length + us.length ≤ 100000 → oAdd (.d d) (.own p) S = some (.own S.length, S ++ [.lst ((ns ++ us).map ti)]) := by
    intro d ns us S p hd hS hle
    subst hd
    have q1 : oAddI (.d (.lst (ns.map D.int))) (.own p) S = none := rfl
    show oOr oAddI (oOr oCat (oOr oCatT oCatS)) _ _ S = _
    unfold oOr
    rw [q1]
    have q2 : oCat (.d (.lst (ns.map D.int))) (.own p) S = some (.own S.length, S ++ [.lst ((ns ++ us).map ti)]) := by
      unfold oCat
      rw [lstOf_own hS, show lstOf (.d (.lst (ns.map D.int))) S = some ((ns.map D.int).map T.d) from rfl, ← map_ti]
      show (if _ then _ else _) = _
      rw [if_pos (le_size (by simpa using hle)), ← List.map_append]
    simp only [q2]
  have oc2 : ∀ (p : Nat) (ns : List Int) (us : List Int) (S : Cs) (q : Nat), S[p]? = some (.lst (ns.map ti)) → S[q]? = some (.lst (us.map ti)) → ns.length + us.length ≤ 100000 → oAdd (.own p) (.own q) S = some (.own S.length, S ++ [.lst ((ns ++ us).map ti)]) := by
    intro p ns us S q hp hS hle
    have q1 : oAddI (.own p) (.own q) S = none := rfl
    show oOr oAddI (oOr oCat (oOr oCatT oCatS)) _ _ S = _
    unfold oOr
    rw [q1]
    have q2 : oCat (.own p) (.own q) S = some (.own S.length, S ++ [.lst ((ns ++ us).map ti)]) := by
      unfold oCat
      rw [lstOf_own hS, lstOf_own hp]
      show (if _ then _ else _) = _
      rw [if_pos (le_size (by simpa using hle)), ← List.map_append]
    simp only [q2]
  have o1 := oc _ ms m2 ([srcC s6, c'] ++ [.lst (m2.map ti)]) 2 rfl rfl (by omega)
  refine run_nx (σ' := [some (.d (.scr ns)), some (.own 0), some (ti n), some (ti M), some (.d (rowsD rs)), some x, o6, some (ti lo), some (ti hi), some (ti (cost rs lo)), none, some (.own 3), none, none, none]) (S' := [srcC s6, c', .lst (m2.map ti), .lst ((ms ++ m2).map ti)]) (by
    rw [cSet_ap, cBin_ap]
    have z : cCallP m_l_marks [] 1 (aCons (cV 4) (aNil)) [some (.d (.scr ns)), some (.own 0), some (ti n), some (ti M), some (.d (rowsD rs)), some x, o6, some (ti lo), some (ti hi), some (ti (cost rs lo)), none, none, none, none, none] [srcC s6, c'] = some (.d (.lst (ms.map D.int)), [srcC s6, c']) := by simp [c11]
    rw [z, binK_s, co, binK2_s]
    show setK 11 (oAdd _ (.own 2) _) _ = _
    rw [o1]
    rfl) ?_
  have o2 := oc2 3 (ms ++ m2) [(lo + hi) / 2, hi - 1, hi + 1] [srcC s6, c', .lst (m2.map ti), .lst ((ms ++ m2).map ti), .lst ([(lo + hi) / 2, hi - 1, hi + 1].map ti)] 4 rfl rfl (by simp; omega)
  generalize hvs : (ms ++ m2) ++ [(lo + hi) / 2, hi - 1, hi + 1] = vs at o2
  have loop := loop_go (g := gN 13) (body := (cSeq (cSet 14 (cCallP m_l_cost [] 2 (aCons (cV 4) (aCons (cV 13) (aNil)))))
      (cIfS (cOr (cB (cBin oLt (cV 14) (cV 9))) (cB (cBin oNe (cBin oEq (cV 14) (cV 9)) (cAndV (cBin oLe (cV 7) (cV 13)) (cBin oLe (cV 13) (cV 8)))))) (cRet (cK (.bl false))) (cNx)))) (cl := [13, 14]) (gs := [(5, vs.map ti)])
      (σ := [some (.d (.scr ns)), some (.own 0), some (ti n), some (ti M), some (.d (rowsD rs)), some x, o6, some (ti lo), some (ti hi), some (ti (cost rs lo)), none, some (.own 3), none, none, none]) (S := [srcC s6, c', .lst (m2.map ti), .lst ((ms ++ m2).map ti), .lst ([(lo + hi) / 2, hi - 1, hi + 1].map ti), .lst (vs.map ti)]) (fun i : Int => .one (ti i))
      (fun done σ S => σ = [some (.d (.scr ns)), some (.own 0), some (ti n), some (ti M), some (.d (rowsD rs)), some x, o6, some (ti lo), some (ti hi), some (ti (cost rs lo)), none, some (.own 3), none, none, none] ∧ S = [srcC s6, c', .lst (m2.map ti), .lst ((ms ++ m2).map ti), .lst ([(lo + hi) / 2, hi - 1, hi + 1].map ti), .lst (vs.map ti)])
      (by rintro done σ S ⟨_, rfl⟩; exact ⟨rfl, trivial⟩) vs ?_ ⟨rfl, rfl⟩
  · obtain ⟨σ', S', e, rfl, rfl⟩ := loop
    refine run_nx (σ' := [some (.d (.scr ns)), some (.own 0), some (ti n), some (ti M), some (.d (rowsD rs)), some x, o6, some (ti lo), some (ti hi), some (ti (cost rs lo)), none, some (.own 3), none, none, none]) (S' := [srcC s6, c', .lst (m2.map ti), .lst ((ms ++ m2).map ti), .lst ([(lo + hi) / 2, hi - 1, hi + 1].map ti), .lst (vs.map ti)]) ?_ ⟨[srcC s6, c', .lst (m2.map ti), .lst ((ms ++ m2).map ti), .lst ([(lo + hi) / 2, hi - 1, hi + 1].map ti), .lst (vs.map ti)], rfl⟩
    rw [cFor_ap, iE_ap, cBin_ap]
    have z : ∀ σ, σ[7]? = some (some (ti lo)) → σ[8]? = some (some (ti hi)) → cLst (aCons (cBin oDiv (cBin oAdd (cV 7) (cV 8)) (cK (.int 2))) (aCons (cBin oSub (cV 8) (cK (.int 1))) (aCons (cBin oAdd (cV 8) (cK (.int 1))) (aNil)))) σ [srcC s6, c', .lst (m2.map ti), .lst ((ms ++ m2).map ti)] = some (.own 4, [srcC s6, c', .lst (m2.map ti), .lst ((ms ++ m2).map ti), .lst ([(lo + hi) / 2, hi - 1, hi + 1].map ti)]) := fun σ q7 q8 => by simp [q7, q8, oDiv_int]
    show forK (iEK (binK (some (.own 3, _)) _ _ _)) _ _ _ _ = _
    rw [binK_s, z _ rfl rfl, binK2_s, o2]
    show forK (iEK (some (.own 5, [srcC s6, c', .lst (m2.map ti), .lst ((ms ++ m2).map ti), .lst ([(lo + hi) / 2, hi - 1, hi + 1].map ti), .lst (vs.map ti)]))) _ _ _ _ = _
    rw [iEK_s, seqG_own (ts := vs.map ti) rfl]
    show forK (some ((vs.map ti).map .one, [(5, vs.map ti)], _)) _ _ _ _ = _
    rw [forK_s, List.map_map]
    exact e
  · rintro done v rest σ S er ⟨rfl, rfl⟩
    refine ⟨_, _, gN_one, ?_⟩
    exact last_turn h1 (by omega) (med v)
end Lw
namespace Lw
open PySem PySem.Spec PyProof.Rows L2 FL
def dd_cost_of : He.DefD := ⟨("cost_of", none), "cost_of", "cost_of", defArgs (top 1), defBody (top 1), defScope (top 1), [], []⟩
def dd_repeated_bounds : He.DefD := ⟨("repeated_bounds", none), "repeated_bounds", "repeated_bounds", defArgs (top 2), defBody (top 2), defScope (top 2), [], []⟩
def dd_l_source : He.DefD := ⟨("_law_source", none), "_law_source", "_law_source", defArgs (top 5), defBody (top 5), defScope (top 5), [], []⟩
def dd_l_draw : He.DefD := ⟨("_law_draw", none), "_law_draw", "_law_draw", defArgs (top 6), defBody (top 6), defScope (top 6), [], []⟩
def dd_l_whole : He.DefD := ⟨("_law_whole", none), "_law_whole", "_law_whole", defArgs (top 8), defBody (top 8), defScope (top 8), [], []⟩
def dd_l_marks : He.DefD := ⟨("_law_marks", none), "_law_marks", "_law_marks", defArgs (top 12), defBody (top 12), defScope (top 12), [], []⟩
def dd_l_cost : He.DefD := ⟨("_law_cost", none), "_law_cost", "_law_cost", defArgs (top 13), defBody (top 13), defScope (top 13), [], []⟩
def dd_l_bounds : He.DefD := ⟨("_law_bounds", none), "_law_bounds", "_law_bounds", defArgs (top 14), defBody (top 14), defScope (top 14), [], []⟩
def dd_middle_span : He.DefD := ⟨("middle_span", none), "middle_span", "middle_span", defArgs (top 3), defBody (top 3), defScope (top 3), [], []⟩
def dd_l_between : He.DefD := ⟨("_law_between", none), "_law_between", "_law_between", defArgs (top 7), defBody (top 7), defScope (top 7), [], []⟩
def dd_l_same : He.DefD := ⟨("_law_same", none), "_law_same", "_law_same", defArgs (top 15), defBody (top 15), defScope (top 15), [], []⟩
def dd_l_estimates : He.DefD := ⟨("_law_estimates", none), "_law_estimates", "_law_estimates", defArgs (top 9), defBody (top 9), defScope (top 9), [], []⟩
def dd_l_far : He.DefD := ⟨("_law_far", none), "_law_far", "_law_far", defArgs (top 10), defBody (top 10), defScope (top 10), [], []⟩
def dd_l_moved : He.DefD := ⟨("_law_moved", none), "_law_moved", "_law_moved", defArgs (top 11), defBody (top 11), defScope (top 11), [], []⟩
def dd_law : He.DefD := ⟨("law", none), "law", "law", defArgs (top 16), defBody (top 16), defScope (top 16), [], []⟩
def fnL : List He.DefD := [dd_cost_of, dd_repeated_bounds, dd_l_source, dd_l_draw, dd_l_whole, dd_l_marks, dd_l_cost, dd_l_bounds, dd_middle_span, dd_l_between, dd_l_same, dd_l_estimates, dd_l_far, dd_l_moved, dd_law]
def faL : List He.Fa := [.glo "cost_of", .glo "repeated_bounds", .glo "_law_source", .glo "_law_draw", .glo "_law_whole", .glo "_law_marks", .glo "_law_cost", .glo "_law_bounds", .glo "middle_span", .glo "_law_between", .glo "_law_same", .glo "_law_estimates", .glo "_law_far", .glo "_law_moved", .glo "law", .free "abs", .free "bool", .free "int", .free "isinstance", .free "len", .free "list", .free "max", .free "min", .free "range", .free "sorted", .free "sum", .free "tuple"]
def lo_0 : List Str := ["cost_of", "repeated_bounds", "middle_span", "_law_source", "_law_draw", "_law_between", "_law_whole", "_law_estimates", "_law_far", "_law_moved", "_law_marks", "_law_cost", "_law_bounds", "_law_same"]
def loose : List Str := lo_0
abbrev RR : PySem.W.OpenRow := PySem.W.OpenLaw.row PySem.Challenge.rw_counthall_k38_middle_span
abbrev hk : PySem.W.Hook := He.hookD 4 faL fnL
def obs (s : PySem.W.SharedT) : He.AlD := He.obsDG 4 faL fnL (HandSHeadRun.getT s)
theorem obs_eq (s : PySem.W.SharedT) : obs s = hk.obs s.abs := He.obsDG_eq (HandSHeadRun.getT_eq s)
theorem run (w : World) : HandSHeadRun.RunEq RR (PySem.W.view RR.prog [16]) hk obs 900 loose w := by
  intro os
  kernel_rfl
theorem facts {K : Frg} {h : Heap} {mg : Str → Option Value} (X : K.In h) (G : h.Ns mainGlobals mg) (c : He.SaysD faL fnL K) : Tx K mg := by
  refine { g_cost_of := He.glo_ok X G (c.fact 0 (f := .glo "cost_of") rfl), d_cost_of := c.def_ 0 (d := dd_cost_of) rfl, g_repeated_bounds := He.glo_ok X G (c.fact 1 (f := .glo "repeated_bounds") rfl), d_repeated_bounds := c.def_ 1 (d := dd_repeated_bounds) rfl, g_l_source := He.glo_ok X G (c.fact 2 (f := .glo "_law_source") rfl), d_l_source := c.def_ 2 (d := dd_l_source) rfl, g_l_draw := He.glo_ok X G (c.fact 3 (f := .glo "_law_draw") rfl), d_l_draw := c.def_ 3 (d := dd_l_draw) rfl, g_l_whole := He.glo_ok X G (c.fact 4 (f := .glo "_law_whole") rfl), d_l_whole := c.def_ 4 (d := dd_l_whole) rfl, g_l_marks := He.glo_ok X G (c.fact 5 (f := .glo "_law_marks") rfl), d_l_marks := c.def_ 5 (d := dd_l_marks) rfl, g_l_cost := He.glo_ok X G (c.fact 6 (f := .glo "_law_cost") rfl), d_l_cost := c.def_ 6 (d := dd_l_cost) rfl, g_l_bounds := He.glo_ok X G (c.fact 7 (f := .glo "_law_bounds") rfl), d_l_bounds := c.def_ 7 (d := dd_l_bounds) rfl, g_middle_span := He.glo_ok X G (c.fact 8 (f := .glo "middle_span") rfl), d_middle_span := c.def_ 8 (d := dd_middle_span) rfl, g_l_between := He.glo_ok X G (c.fact 9 (f := .glo "_law_between") rfl), d_l_between := c.def_ 9 (d := dd_l_between) rfl, g_l_same := He.glo_ok X G (c.fact 10 (f := .glo "_law_same") rfl), d_l_same := c.def_ 10 (d := dd_l_same) rfl, g_l_estimates := He.glo_ok X G (c.fact 11 (f := .glo "_law_estimates") rfl), d_l_estimates := c.def_ 11 (d := dd_l_estimates) rfl, g_l_far := He.glo_ok X G (c.fact 12 (f := .glo "_law_far") rfl), d_l_far := c.def_ 12 (d := dd_l_far) rfl, g_l_moved := He.glo_ok X G (c.fact 13 (f := .glo "_law_moved") rfl), d_l_moved := c.def_ 13 (d := dd_l_moved) rfl, g_law := He.glo_ok X G (c.fact 14 (f := .glo "law") rfl), d_law := c.def_ 14 (d := dd_law) rfl, b_abs := He.free_ok X G (c.fact 15 (f := .free "abs") rfl), b_bool := He.free_ok X G (c.fact 16 (f := .free "bool") rfl), b_int := He.free_ok X G (c.fact 17 (f := .free "int") rfl), b_isinstance := He.free_ok X G (c.fact 18 (f := .free "isinstance") rfl), b_len := He.free_ok X G (c.fact 19 (f := .free "len") rfl), b_list := He.free_ok X G (c.fact 20 (f := .free "list") rfl), b_max := He.free_ok X G (c.fact 21 (f := .free "max") rfl), b_min := He.free_ok X G (c.fact 22 (f := .free "min") rfl), b_range := He.free_ok X G (c.fact 23 (f := .free "range") rfl), b_sorted := He.free_ok X G (c.fact 24 (f := .free "sorted") rfl), b_sum := He.free_ok X G (c.fact 25 (f := .free "sum") rfl), b_tuple := He.free_ok X G (c.fact 26 (f := .free "tuple") rfl) }
theorem ok_all {P : Program} {w : World} {K : Frg} {mg : Str → Option Value} (T : Tx K mg) : OkD P w K mg 5 "law" ["_law_script"] m_law := by
  have h_cost_of := ok_cost_of (P := P) (w := w) T 
  have h_repeated_bounds := ok_repeated_bounds (P := P) (w := w) T 
  have h_l_source := ok_l_source (P := P) (w := w) T 
  have h_l_draw := ok_l_draw (P := P) (w := w) T 
  have h_l_whole := ok_l_whole (P := P) (w := w) T 
  have h_l_marks := ok_l_marks (P := P) (w := w) T 
  have h_l_cost := ok_l_cost (P := P) (w := w) T 
  have h_l_bounds := ok_l_bounds (P := P) (w := w) T 
  have h_middle_span := ok_middle_span (P := P) (w := w) T h_cost_of h_repeated_bounds
  have h_l_between := ok_l_between (P := P) (w := w) T h_l_draw
  have h_l_same := ok_l_same (P := P) (w := w) T h_l_whole
  have h_l_estimates := ok_l_estimates (P := P) (w := w) T h_l_between h_l_draw
  have h_l_far := ok_l_far (P := P) (w := w) T h_l_between h_l_draw
  have h_l_moved := ok_l_moved (P := P) (w := w) T h_l_draw h_l_far
  have h_law := ok_law (P := P) (w := w) T h_l_bounds h_l_cost h_l_draw h_l_estimates h_l_marks h_l_moved h_l_same h_l_source h_middle_span
  exact h_law
end Lw
open PySem PySem.W PySem.Calls PyProof.Rows
set_option maxRecDepth 100000 in
set_option maxHeartbeats 0 in
theorem PySem.Challenge.cw_counthall_k38_middle_span_holds : PySem.Challenge.rw_counthall_k38_middle_span.Holds := by
  w_on; o_law
  refine HandSHeadRun.head_any (r := OpenLaw.row PySem.Challenge.rw_counthall_k38_middle_span) (q := view (OpenLaw.row PySem.Challenge.rw_counthall_k38_middle_span).prog [16]) (H := Lw.hk) (ob := Lw.obs) (M := 900) (loose := Lw.loose) (d := HandSHeadRun.topDef (OpenLaw.row PySem.Challenge.rw_counthall_k38_middle_span).prog 16) (kwd := []) Lw.obs_eq
    (by kernel_rfl) (fun s => by kernel_rfl) Lw.run (by kernel_rfl) (by kernel_rfl) (by kernel_rfl) (by rfl) (by first | assumption | decide +kernel) (by decide +kernel) ⟨rfl, rfl, rfl, rfl, rfl, by decide +kernel⟩ ?hw ?hc
  case hw => w_witness2
  case hc =>
    refine L2.walk_ofE (l := PySem.Challenge.rw_counthall_k38_middle_span) (n := 63) (k := 5) (x := "_law_script") (CX := L2.CX0) rfl (by decide) (by kernel_rfl) ⟨rfl, by decide, by decide⟩ ?F (fun _ _ _ _ z => z)
    intro w mg fa h Y G hmg0
    obtain ⟨K, KX, c⟩ := Y
    have hmg : mg ("law" : PySem.Str) = some (.ref fa) := by
      have e : (HandSHeadRun.topDef (OpenLaw.row PySem.Challenge.rw_counthall_k38_middle_span).prog 16).name = ("law" : PySem.Str) := by kernel_rfl
      rw [← e]
      exact hmg0
    have T := Lw.facts KX G c
    have ef := hmg.symm.trans T.g_law
    cases ef
    obtain ⟨fd, G', _, b⟩ := (Lw.ok_all (P := (PySem.Challenge.rw_counthall_k38_middle_span).prog) (w := w) T).ex
    exact ⟨K, fd, FL.spF K 1 Lw.m_law, KX, fun s u => b s [u] rfl, fun H a ns hl _ hS => FL.law_sp Lw.law_true H a ns hl hS, fun base _ _ => G' base⟩
