import PyProof.Rows.All
import Wide.All
import OpenK.AllK
import Wide.FinOn
import HandS.ForMost
import HandS.HeadHook1
import HandS.HeadHook2
import HandS.Wide
import HandS.IsInst
import HandS.Defaults
import HandS.SortInts
import HandS.TupAny
import HandS.Sort
import PyProof.ListRange
import KE.KStateDown
import HandS.Head0
import HandS.Head1
import HandS.Head2
import HandS.HeadEnd
import HandS.Iter
import HandS.Zip
import HandS.Rev
import HandS.RevRange
import HandS.Deep
import PyProof.ListIndex
import HandS.MakeKwOnly
import HandS.SetFor
import HandS.MakeKw
import KE.KExcSuper
import HandS.ExcInit
import HandS.ExcSuper
import HandS.Exc
import HandS.ExcOwn
import HandS.CallSlots
import HandS.ExcIs
import HandS.ExcField
import HandS.SlotsOwn
import KE.KOpsOwn
import HandS.IterNext
import KE.KOwnIter
import HandS.SortRule
import HandS.Style
import KE.DatumOrd
import KE.GoesMore
import KE.GoesNew
import HandS.ExcInitHot
import KE.SortData
import HandS.RevTup
import HandS.More
import PyProof.ExcBaseAll.ValueError
import HandS.TryOnly
import PySem.Challenge.RW_counthall_k41_greatest_flow
section HoistA
set_option Elab.async false
set_option linter.all false
set_option autoImplicit false
set_option maxRecDepth 100000
set_option maxHeartbeats 4000000
/-! FL: plain data (D), values with local objects (T), the two worlds' tie (RelS, SlotsOk, Step). -/
namespace FL
open PySem PySem.Spec PyProof.Rows L2
abbrev Frg := PySem.W.Frag

/-- a value that never changes any more -/
inductive D where
  | non | bl (b : Bool) | int (i : Int) | str (x : Str) | tup (ds : List D) | lst (ds : List D) | obj (c : Str) (fs : List (Str × D)) | scr (ns : List Int) | ty (n : String) | glob (c : Str) | rng (lo hi : Int)
/-- a value: such data, or the local object numbered p -/
inductive T where
  | d (d : D) | own (p : Nat)
/-- a local object: a list, an instance, or one that is data from now on -/
inductive Cell where
  | lst (ts : List T) | ins (c : Str) (fs : List (Str × T)) | frz (d : D)
abbrev Sg := List (Option T)
abbrev Cs := List Cell

mutual
inductive Rep (K : Frg) (F : Hp) : V → D → Prop
  | non : Rep K F .non .non
  | bl (b : Bool) : Rep K F (.bl b) (.bl b)
  | int (i : Int) : Rep K F (.int i) (.int i)
  | str (x : Str) : Rep K F (.str x) (.str x)
  | tup {a : Addr} {vs : List V} {ds : List D} : SqT K F a vs → Reps K F vs ds → Rep K F (.ref a) (.tup ds)
  | lst {a : Addr} {vs : List V} {ds : List D} : F a = some (.lst vs) → Reps K F vs ds → Rep K F (.ref a) (.lst ds)
  | obj {a dx : Addr} {c : Str} {fvs : List (Str × V)} {fs : List (Str × D)} : F a = some (.ins (He.ga K c) dx fvs) → RepF K F fvs fs → Rep K F (.ref a) (.obj c fs)
  | scr {a : Addr} {ns : List Int} : SqL K F a (ns.map V.int) → Rep K F (.ref a) (.scr ns)
  | ty (n : String) : Rep K F (.ty n) (.ty n)
  | glob (c : Str) : Rep K F (.ref (He.ga K c)) (.glob c)
  | rng {a : Addr} {lo hi : Int} : F a = some (.rng lo hi) → Rep K F (.ref a) (.rng lo hi)
inductive Reps (K : Frg) (F : Hp) : List V → List D → Prop
  | nil : Reps K F [] []
  | cons {v : V} {d : D} {vs : List V} {ds : List D} : Rep K F v d → Reps K F vs ds → Reps K F (v :: vs) (d :: ds)
inductive RepF (K : Frg) (F : Hp) : List (Str × V) → List (Str × D) → Prop
  | nil : RepF K F [] []
  | cons {f : Str} {v : V} {d : D} {vs : List (Str × V)} {ds : List (Str × D)} : Rep K F v d → RepF K F vs ds → RepF K F ((f, v) :: vs) ((f, d) :: ds)
end

def RepT (K : Frg) (F : Hp) (ad : List Addr) (v : V) : T → Prop
  | .d d => Rep K F v d
  | .own p => ∃ a, ad[p]? = some a ∧ v = .ref a
abbrev RepTs (K : Frg) (F : Hp) (ad : List Addr) : List V → List T → Prop := Paired fun v t => RepT K F ad v t
abbrev RepTF (K : Frg) (F : Hp) (ad : List Addr) : List (Str × V) → List (Str × T) → Prop := Paired fun p q => p.1 = q.1 ∧ RepT K F ad p.2 q.2
def CellOk (K : Frg) (F : Hp) (ad : List Addr) (H : Hp) (a : Addr) : Cell → Prop
  | .lst ts => F a = none ∧ ∃ vs, H a = some (.lst vs) ∧ RepTs K F ad vs ts
  | .ins c fs => F a = none ∧ ∃ dx fvs, H a = some (.ins (He.ga K c) dx fvs) ∧ RepTF K F ad fvs fs
  | .frz d => Rep K F (.ref a) d ∧ ∃ o, H a = some o
structure RelS (K : Frg) (F : Hp) (ad : List Addr) (S : Cs) (H : Hp) : Prop where
  sub : ∀ b o, F b = some o → H b = some o
  nd : ad.Nodup
  len : ad.length = S.length
  cells : ∀ (p : Nat) (a : Addr) (c : Cell), ad[p]? = some a → S[p]? = some c → CellOk K F ad H a c
def SlotsOk (K : Frg) (F : Hp) (ad : List Addr) (σ : Sg) (τ : L2.St) : Prop :=
  σ.length = τ.length ∧ ∀ (i : Nat) (t : T), σ[i]? = some (some t) → ∃ v, τ[i]? = some (some v) ∧ RepT K F ad v t
structure Step (F : Hp) (ad : List Addr) (H : Hp) (F' : Hp) (ad' : List Addr) (H' : Hp) : Prop where
  fsub : ∀ b o, F b = some o → F' b = some o
  fnew : ∀ b o, F' b = some o → F b = some o ∨ b ∈ ad ∨ H b = none
  adx : ∃ l, ad' = ad ++ l ∧ ∀ a ∈ l, H a = none
  keep : ∀ b o, H b = some o → b ∉ ad → H' b = some o
  alive : ∀ b, H' b = none → H b = none

section
variable {K : Frg} {F F' F'' : Hp} {ad ad' ad'' : List Addr} {S S' : Cs} {H H' H'' : Hp} {v : V}
theorem Step.trans (s : Step F ad H F' ad' H') (r : Step F' ad' H' F'' ad'' H'') : Step F ad H F'' ad'' H'' := by
  obtain ⟨l, e, hl⟩ := s.adx
  obtain ⟨l', e', hl'⟩ := r.adx
  have new : ∀ b, b ∈ ad' → b ∈ ad ∨ H b = none := fun b hb => by
    rw [e] at hb
    rcases List.mem_append.mp hb with h | h
    · exact .inl h
    · exact .inr (hl b h)
  refine ⟨fun b o h => r.fsub b o (s.fsub b o h), fun b o h => ?_, ⟨l ++ l', by rw [e', e, List.append_assoc], fun a ha => ?_⟩, fun b o h hn => ?_, fun b h => s.alive b (r.alive b h)⟩
  · rcases r.fnew b o h with h | h | h
    · exact s.fnew b o h
    · exact .inr (new b h)
    · exact .inr (.inr (s.alive b h))
  · rcases List.mem_append.mp ha with h | h
    · exact hl a h
    · exact s.alive a (hl' a h)
  · refine r.keep b o (s.keep b o h hn) fun hb => ?_
    rcases new b hb with h' | h'
    · exact hn h'
    · rw [h'] at h; cases h
theorem SqT.sub (h : ∀ b o, F b = some o → F' b = some o) {a : Addr} {xs : List V} (q : SqT K F a xs) : SqT K F' a xs := by
  rcases q with (q | ⟨o, q⟩) | q
  · exact .inl (.inl (h _ _ q))
  · exact .inl (.inr ⟨o, h _ _ q⟩)
  · exact .inr q
theorem SqL.sub (h : ∀ b o, F b = some o → F' b = some o) {a : Addr} {xs : List V} (q : SqL K F a xs) : SqL K F' a xs := by
  rcases q with (q | ⟨o, q⟩) | q
  · exact .inl (.inl (h _ _ q))
  · exact .inl (.inr ⟨o, h _ _ q⟩)
  · exact .inr q
mutual
theorem Rep.mono (h : ∀ b o, F b = some o → F' b = some o) : ∀ {v : V} {d : D}, Rep K F v d → Rep K F' v d
  | _, _, .non => .non
  | _, _, .bl b => .bl b
  | _, _, .int i => .int i
  | _, _, .str x => .str x
  | _, _, .tup q r => .tup (SqT.sub h q) (Reps.mono h r)
  | _, _, .lst q r => .lst (h _ _ q) (Reps.mono h r)
  | _, _, .obj q r => .obj (h _ _ q) (RepF.mono h r)
  | _, _, .scr q => .scr (SqL.sub h q)
  | _, _, .ty n => .ty n
  | _, _, .glob c => .glob c
  | _, _, .rng q => .rng (h _ _ q)
theorem Reps.mono (h : ∀ b o, F b = some o → F' b = some o) : ∀ {v : List V} {d : List D}, Reps K F v d → Reps K F' v d
  | _, _, .nil => .nil
  | _, _, .cons q r => .cons (Rep.mono h q) (Reps.mono h r)
theorem RepF.mono (h : ∀ b o, F b = some o → F' b = some o) : ∀ {v : List (Str × V)} {d : List (Str × D)}, RepF K F v d → RepF K F' v d
  | _, _, .nil => .nil
  | _, _, .cons q r => .cons (Rep.mono h q) (RepF.mono h r)
end
theorem Reps.length : ∀ {vs : List V} {ds : List D}, Reps K F vs ds → vs.length = ds.length
  | _, _, .nil => rfl
  | _, _, .cons _ r => by simp [Reps.length r]
theorem Reps.ts : ∀ {vs : List V} {ds : List D}, Reps K F vs ds → RepTs K F ad vs (ds.map .d)
  | _, _, .nil => .nil
  | _, _, .cons q r => .cons q (Reps.ts r)
theorem Paired.set {α β : Type} {R : α → β → Prop} {x : α} {y : β} (r : R x y) : ∀ {vs : List α} {ds : List β} (n : Nat), Paired R vs ds → Paired R (vs.set n x) (ds.set n y)
  | _, _, _, .nil => .nil
  | _, _, 0, .cons _ t => .cons r t
  | _, _, n + 1, .cons q t => .cons q (Paired.set r n t)
theorem RepT.mono (h : ∀ b o, F b = some o → F' b = some o) {l : List Addr} (t : T) (r : RepT K F ad v t) : RepT K F' (ad ++ l) v t := by
  cases t with
  | d d => exact Rep.mono h r
  | own p =>
    obtain ⟨a, e, r⟩ := r
    exact ⟨a, by rw [List.getElem?_append_left (List.getElem?_eq_some_iff.mp e).1]; exact e, r⟩
theorem RepT.step (s : Step F ad H F' ad' H') {t : T} (r : RepT K F ad v t) : RepT K F' ad' v t := by
  obtain ⟨l, e, _⟩ := s.adx
  rw [e]
  exact RepT.mono s.fsub t r
theorem RepTs.step (s : Step F ad H F' ad' H') {vs : List V} {ts : List T} (r : RepTs K F ad vs ts) : RepTs K F' ad' vs ts := Paired.mapP r fun _ _ q => RepT.step s q
theorem RepTF.step (s : Step F ad H F' ad' H') {vs : List (Str × V)} {ts : List (Str × T)} (r : RepTF K F ad vs ts) : RepTF K F' ad' vs ts := Paired.mapP r fun _ _ q => ⟨q.1, RepT.step s q.2⟩
theorem SlotsOk.step (s : Step F ad H F' ad' H') {σ : Sg} {τ : L2.St} (r : SlotsOk K F ad σ τ) : SlotsOk K F' ad' σ τ :=
  ⟨r.1, fun i t e => let ⟨v, h1, h2⟩ := r.2 i t e; ⟨v, h1, RepT.step s h2⟩⟩
theorem SlotsOk.set {σ : Sg} {τ : L2.St} (r : SlotsOk K F ad σ τ) {t : T} (q : RepT K F ad v t) (i : Nat) : SlotsOk K F ad (σ.set i (some t)) (τ.set i (some v)) := by
  refine ⟨by simp [r.1], fun j u e => ?_⟩
  rw [List.getElem?_set] at e
  rw [List.getElem?_set]
  by_cases hij : i = j
  · subst hij
    rw [if_pos rfl] at e
    rw [if_pos rfl]
    by_cases hl : i < σ.length
    · rw [if_pos hl] at e
      rw [if_pos (r.1 ▸ hl)]
      cases e
      exact ⟨v, rfl, q⟩
    · rw [if_neg hl] at e
      cases e
  · rw [if_neg hij] at e
    rw [if_neg hij]
    exact r.2 j u e
/-- a cell's tie, carried over -/
theorem CellOk.step {a : Addr} {c : Cell} (r : CellOk K F ad H a c) (s : Step F ad H F' ad' H') (h : ∀ o, H a = some o → H' a = some o) (hf : F a = none → F' a = none) : CellOk K F' ad' H' a c := by
  cases c with
  | lst ts => obtain ⟨n, vs, e, q⟩ := r; exact ⟨hf n, vs, h _ e, RepTs.step s q⟩
  | ins c fs => obtain ⟨n, dx, fvs, e, q⟩ := r; exact ⟨hf n, dx, fvs, h _ e, RepTF.step s q⟩
  | frz d => obtain ⟨q, o, e⟩ := r; exact ⟨Rep.mono s.fsub q, o, h _ e⟩
end
end FL
/-! FL: the functional readings. -/
namespace FL
open PySem PySem.Spec PyProof.Rows L2
abbrev EF := Sg → Cs → Option (T × Cs)
abbrev BF := Sg → Cs → Option (Bool × Cs)
abbrev AF := Sg → Cs → Option (List T × Cs)
inductive Fl where
  | nx | bk | ct | rt (t : T)
structure Go (K : Frg) (F : Hp) (ad : List Addr) (H F' : Hp) (ad' : List Addr) (H' : Hp) (S' : Cs) : Prop where
  st : Step F ad H F' ad' H'
  rel : RelS K F' ad' S' H'
theorem Go.trans {K : Frg} {F F' F'' : Hp} {ad ad' ad'' : List Addr} {H H' H'' : Hp} {S' S'' : Cs} (a : Go K F ad H F' ad' H' S') (b : Go K F' ad' H' F'' ad'' H'' S'') : Go K F ad H F'' ad'' H'' S'' := ⟨a.st.trans b.st, b.rel⟩
theorem PE.imp {X : Cx} {e : Expr} {t t' : TE} (h : PE X e t) (w : ∀ τ H Q, t' τ H Q → t τ H Q) : PE X e t' := ⟨fun pins s σ H Q I q => h.run pins s σ H Q I (w _ _ _ q)⟩
theorem PT.imp {X : Cx} {e : Expr} {t t' : TT} (h : PT X e t) (w : ∀ τ H Q, t' τ H Q → t τ H Q) : PT X e t' := ⟨fun pins s σ H Q I q => h.run pins s σ H Q I (w _ _ _ q)⟩
theorem PW.imp {X : Cx} {e : Expr} {t t' : TT} (h : PW X e t) (w : ∀ τ H Q, t' τ H Q → t τ H Q) : PW X e t' := ⟨fun wh pins s σ H Q I q => h.run wh pins s σ H Q I (w _ _ _ q)⟩
theorem PA.imp {X : Cx} {e : List Expr} {t t' : TA} (h : PA X e t) (w : ∀ τ H Q, t' τ H Q → t τ H Q) : PA X e t' := ⟨fun pos pins s σ H Q I q => h.run pos pins s σ H Q I (w _ _ _ q)⟩
theorem PS.imp {X : Cx} {e : Stmt} {t t' : TS} (h : PS X e t) (w : ∀ D τ H, t' D τ H → t D τ H) : PS X e t' := ⟨fun pins s σ H Q I q => h.run pins s σ H Q I (w _ _ _ q)⟩
theorem PSs.imp {X : Cx} {e : List Stmt} {t t' : TS} (h : PSs X e t) (w : ∀ D τ H, t' D τ H → t D τ H) : PSs X e t' := ⟨fun pins s σ H Q I q => h.run pins s σ H Q I (w _ _ _ q)⟩
theorem OpR.imp {X : Cx} {f : Value → Value → Sem Value} {r r' : R2} (h : OpR X f r) (w : ∀ x y H Q, r' x y H Q → r x y H Q) : OpR X f r' := fun pins s σ H Q x y v u I rx ry q => h pins s σ H Q x y v u I rx ry (w _ _ _ _ q)

section
variable {X : Cx}
/-! ### names, constants -/
/-! ### operators of two values -/
abbrev OF := T → T → Cs → Option (T × Cs)
def r2 (K : Frg) (g : OF) : R2 := fun x y H Q => ∃ F ad S tx ty t S', RelS K F ad S H ∧ RepT K F ad x tx ∧ RepT K F ad y ty ∧ g tx ty S = some (t, S') ∧
  ∀ F' ad' H' v, Go K F ad H F' ad' H' S' → RepT K F' ad' v t → Q v H'
def OpF (X : Cx) (f : Value → Value → Sem Value) (g : OF) : Prop := OpR X f (r2 X.K g)
variable {a b : Expr} {fa fb : EF} {pos : Pos}
/-! ### tests -/
theorem RepT.bl {K : Frg} {F : Hp} {ad : List Addr} {v : V} {b : Bool} (r : RepT K F ad v (.d (.bl b))) : v = .bl b := by
  cases (show Rep K F v (.bl b) from r); rfl
theorem RepT.int {K : Frg} {F : Hp} {ad : List Addr} {v : V} {b : Int} (r : RepT K F ad v (.d (.int b))) : v = .int b := by
  cases (show Rep K F v (.int b) from r); rfl
theorem RepT.str {K : Frg} {F : Hp} {ad : List Addr} {v : V} {b : Str} (r : RepT K F ad v (.d (.str b))) : v = .str b := by
  cases (show Rep K F v (.str b) from r); rfl
theorem RepT.non {K : Frg} {F : Hp} {ad : List Addr} {v : V} (r : RepT K F ad v (.d .non)) : v = .non := by
  cases (show Rep K F v .non from r); rfl
variable {fA fB : BF} {rest : List Expr}
/-! ### and, or, not as values of bools; a if t else b -/
/-! ### argument lists -/
variable {e : Expr} {es : List Expr} {fs : AF}
/-! ### data out of local objects -/
/-- each item by f, from the left -/
def mapS {α : Type} (f : T → Cs → Option (D × Cs)) (key : α → T) : List α → Cs → Option (List D × Cs)
  | [], S => some ([], S)
  | a :: l, S => (f (key a) S).bind fun p => (mapS f key l p.2).map fun q => (p.1 :: q.1, q.2)
def isFrz : Option Cell → Bool
  | some (.frz _) => true
  | none => true
  | _ => false
def toD : Nat → T → Cs → Option (D × Cs)
  | _, .d d, S => some (d, S)
  | 0, .own _, _ => none
  | n + 1, .own p, S => match S[p]? with
    | some (.frz d) => some (d, S)
    | some (.lst ts) => (mapS (toD n) id ts S).bind fun q => if isFrz q.2[p]? = true then none else some (.lst q.1, q.2.set p (.frz (.lst q.1)))
    | some (.ins c fs) => (mapS (toD n) (·.2) fs S).bind fun q => if isFrz q.2[p]? = true then none else some (.obj c ((fs.map (·.1)).zip q.1), q.2.set p (.frz (.obj c ((fs.map (·.1)).zip q.1))))
    | none => none
/-- the depth that is looked into -/
abbrev dep : Nat := 4
/-! ### displays -/
theorem RelS.fresh {K : Frg} {F : Hp} {ad : List Addr} {S : Cs} {H : Hp} (r : RelS K F ad S H) {a : Addr} (hn : H a = none) : F a = none := by
  cases q : F a with
  | none => rfl
  | some u => have := r.sub a u q; rw [hn] at this; cases this
end
end FL
/-! FL: operators, subscripts, calls. -/
namespace FL
open PySem PySem.Spec PyProof.Rows L2
def asI : T → Option Int
  | .d (.int i) => some i
  | _ => none
section
end
section
variable {X : Cx}
/-! ### ints -/
def oI (C : Int → Int → Prop) [∀ i j, Decidable (C i j)] (g : Int → Int → D) : OF := fun x y S => match asI x, asI y with
  | some i, some j => if C i j then some (.d (g i j), S) else none
  | _, _ => none
instance (i j : Int) : Decidable (CMul i j) := by unfold CMul; infer_instance
instance (i j : Int) : Decidable (CPow i j) := by unfold CPow; infer_instance
instance (i j : Int) : Decidable (CDivW i j) := by unfold CDivW; infer_instance
/-! ### + and * -/
/-! ### == -/
mutual
def pyD : D → Option PyData
  | .non => some .none
  | .bl b => some (.bool b)
  | .int i => some (.int i)
  | .str x => some (.str x)
  | .tup ds => (pyDs ds).map .tuple
  | .lst ds => (pyDs ds).map .list
  | .obj _ _ => none
  | .scr _ => none
  | .ty _ => none
  | .glob _ => none
  | .rng _ _ => none
def pyDs : List D → Option (List PyData)
  | [] => some []
  | d :: ds => (pyD d).bind fun p => (pyDs ds).map fun q => p :: q
end
/-! ### is None -/
/-! ### -a -/
/-! ### a < b < c -/
/-! ### subscripts -/
theorem IxR.imp {r r' : R2} (h : IxR X r) (w : ∀ x y H Q, r' x y H Q → r x y H Q) : IxR X r' := fun vl sl pins s σ H x y v u Q I rx ry q => h vl sl pins s σ H x y v u Q I rx ry (w _ _ _ _ q)
/-! ### calls of the program's own defs -/
abbrev MF := List T → Cs → Option (T × Cs)
/-- a def's promise: it does what m does -/
def spF (K : Frg) (n : Nat) (m : MF) : Sp := fun vs H Q _ => ∃ F ad S ts t S', RelS K F ad S H ∧ RepTs K F ad vs ts ∧ ts.length = n ∧ m ts S = some (t, S') ∧
  ∀ F' ad' H' v, Go K F ad H F' ad' H' S' → RepT K F' ad' v t → Q v H'
theorem RelS.nil {K : Frg} {F : Hp} {ad : List Addr} {S : Cs} {H : Hp} (r : RelS K F ad S H) : RelS K F [] [] H := ⟨r.sub, List.nodup_nil, rfl, fun p a c e _ => by simp at e⟩
section
end
end
end FL
/-! FL: built-ins, methods, statements, loops. -/
namespace FL
open PySem PySem.Spec PyProof.Rows L2
section
variable {X : Cx}
/-! ### built-ins -/
def rF (K : Frg) (g : MF) : List V → Hp → VK → Prop := fun vs H Q => ∃ F ad S ts t S', RelS K F ad S H ∧ RepTs K F ad vs ts ∧ g ts S = some (t, S') ∧
  ∀ F' ad' H' v, Go K F ad H F' ad' H' S' → RepT K F' ad' v t → Q v H'
def CallF (X : Cx) (f : Value) (g : MF) : Prop := CallR X f (rF X.K g)
theorem CallR.imp {f : Value} {r r' : List V → Hp → VK → Prop} (h : CallR X f r) (w : ∀ x H Q, r' x H Q → r x H Q) : CallR X f r' := fun pins s σ H x v Q I rx q => h pins s σ H x v Q I rx (w _ _ _ q)
section
end
def b1 (g : T → Cs → Option (T × Cs)) : MF := fun ts S => match ts with
  | [t] => g t S
  | _ => none
/-! ### isinstance with a built-in class -/
/-! ### any, all -/
end
end FL
/-! FL: methods of lists, targets, statements, loops, comprehensions, defs. -/
namespace FL
open PySem PySem.Spec PyProof.Rows L2
section
variable {X : Cx}
/-! ### sorted of ints -/
/-! ### methods of lists -/
theorem MtR.imp {id : String} {r r' : V → List V → Hp → VK → Prop} (h : MtR X id r) (w : ∀ x vs H Q, r' x vs H Q → r x vs H Q) : MtR X id r' := fun pins s σ H x xs v us Q I rx rs q => h pins s σ H x xs v us Q I rx rs (w _ _ _ _ q)
section
end
/-! ### targets -/
/-- only the slots in is may differ -/
def Dif (is : List Nat) (τ τ' : L2.St) : Prop := τ'.length = τ.length ∧ ∀ j, j ∉ is → τ'[j]? = τ[j]?
theorem Dif.trans {is js : List Nat} {τ τ' τ'' : L2.St} (a : Dif is τ τ') (b : Dif js τ' τ'') : Dif (is ++ js) τ τ'' :=
  ⟨b.1.trans a.1, fun j h => (b.2 j fun z => h (List.mem_append_right _ z)).trans (a.2 j fun z => h (List.mem_append_left _ z))⟩
theorem PG.imp {tg : Expr} {t t' : TG} (h : PG X tg t) (w : ∀ v τ H Q, t' v τ H Q → t v τ H Q) : PG X tg t' := ⟨fun pins s σ H v u Q I r q => h.run pins s σ H v u Q I r (w _ _ _ _ q)⟩
theorem PGs.imp {tg : List Expr} {t t' : TGs} (h : PGs X tg t) (w : ∀ v τ H Q, t' v τ H Q → t v τ H Q) : PGs X tg t' := ⟨fun pins s σ H v u Q I r q => h.run pins s σ H v u Q I r (w _ _ _ _ q)⟩
/-! ### statements -/
section
end
end
end FL
/-! FL: loops, comprehensions, defs. -/
namespace FL
open PySem PySem.Spec PyProof.Rows L2
open Classical in
section
variable {X : Cx}
theorem PI.imp {tg it : Expr} {t t' : TI} (h : PI X tg it t) (w : ∀ τ H R, t' τ H R → t τ H R) : PI X tg it t' := ⟨fun pins s σ H R I q => h.run pins s σ H R I (w _ _ _ q)⟩
/-! ### what is walked -/
/-! ### for -/
/-! ### while -/
end
end FL
/-! FL: comprehensions, defs. -/
namespace FL
open PySem PySem.Spec PyProof.Rows L2
open Classical in
section
variable {X : Cx}
/-! ### [e for x in xs if t] -/
theorem PTs.imp {e : List Expr} {t t' : TT} (h : PTs X e t) (w : ∀ τ H Q, t' τ H Q → t τ H Q) : PTs X e t' := ⟨fun pins s σ H Q I q => h.run pins s σ H Q I (w _ _ _ q)⟩
/-! ### defs -/
end
section
end
end FL
/-! FL: ranges, slices, truth, calls that give back what they took, xs[i] += e. -/
namespace FL
open PySem PySem.Spec PyProof.Rows L2
section
variable {X : Cx}
/-! ### ranges as values -/
/-! ### slices of lists, of tuples -/
theorem PO.imp {e : Option Expr} {t t' : TO} (h : PO X e t) (w : ∀ τ H Q, t' τ H Q → t τ H Q) : PO X e t' := ⟨fun pins s σ H Q I q => h.run pins s σ H Q I (w _ _ _ q)⟩
/-! ### truth -/
/-! ### calls that give back what they took -/
section
end
/-! ### new local objects that nothing holds are forgotten -/
end
end FL
/-! FL: a def of the text and its function; the law's end. -/
namespace FL
open PySem PySem.Spec PyProof.Rows L2
/-- the def that the module's name x stands for does what m does -/
structure OkD (P : Program) (w : World) (K : Frg) (mg : Str → Option Value) (k : Nat) (x : Str) (ps : List Str) (m : MF) : Prop where
  ex : ∃ fd, (∀ base : Heap, FnOk P w K mg base CX0 k (He.ga K x) fd ps (spF K ps.length m)) ∧ Binds K fd ps [] ∧ ∀ (s : Shared) (us : List Value), us.length = ps.length → BindsTo s fd ⟨us, []⟩ (ps.zip us)
  kp : PySem.W.keepIn K (.ref (He.ga K x)) = true
  g : mg x = some (.ref (He.ga K x))
section
variable {P : Program} {w : World} {K : Frg} {mg : Str → Option Value}
theorem OkD.mono {j k : Nat} {x : Str} {ps : List Str} {m : MF} (O : OkD P w K mg j x ps m) (h : j ≤ k) : OkD P w K mg k x ps m := by
  obtain ⟨fd, G, b⟩ := O.ex
  exact ⟨⟨fd, fun base => (G base).mono h, b⟩, O.kp, O.g⟩
end
section
end
end FL
/-! FL: enumerate of tuples, reversed ranges, zip. -/
namespace FLEn
open PySem
end FLEn
namespace FL
open PySem PySem.Spec PyProof.Rows L2
end FL
/-! VL: values without places. Expressions are functions of the slots' data; objects that a def makes and changes are trees that one slot owns. -/
namespace VL
open PySem PySem.Spec PyProof.Rows L2 FL

/-- what a slot holds: data that never changes any more, or an object of its own -/
inductive O where
  | d (d : D) | l (os : List O) | i (c : Str) (fs : List (Str × O)) | t (os : List O)
structure Exn where
  c : Str
  fs : List (Str × D)
/-- an answer: it is there, an exception leaves, nothing is said -/
inductive R (ε α : Type) where
  | ok (a : α) | ex (x : ε) | no
namespace R
variable {ε α β : Type}
def bind (r : R ε α) (f : α → R ε β) : R ε β := match r with
  | .ok a => f a
  | .ex x => .ex x
  | .no => .no
def map (f : α → β) (r : R ε α) : R ε β := match r with
  | .ok a => .ok (f a)
  | .ex x => .ex x
  | .no => .no
def of (o : Option α) : R ε α := match o with
  | some a => .ok a
  | none => .no
end R

mutual
def frz : O → D
  | .d d => d
  | .l os => .lst (frzL os)
  | .i c fs => .obj c (frzF fs)
  | .t os => .tup (frzL os)
def frzL : List O → List D
  | [] => []
  | o :: os => frz o :: frzL os
def frzF : List (Str × O) → List (Str × D)
  | [] => []
  | (f, o) :: os => (f, frz o) :: frzF os
end
mutual
/-- nothing in it could be one of a def's own objects -/
def flat : D → Bool
  | .non => true
  | .bl _ => true
  | .int _ => true
  | .str _ => true
  | .tup ds => flatL ds
  | .lst _ => false
  | .obj _ _ => false
  | .scr _ => false
  | .ty _ => true
  | .glob _ => true
  | .rng _ _ => true
def flatL : List D → Bool
  | [] => true
  | d :: ds => flat d && flatL ds
end
mutual
def flatO : O → Bool
  | .d d => flat d
  | .l os => flatOL os
  | .i _ fs => flatOF fs
  | .t os => flatOL os
def flatOL : List O → Bool
  | [] => true
  | o :: os => flatO o && flatOL os
def flatOF : List (Str × O) → Bool
  | [] => true
  | (_, o) :: os => flatO o && flatOF os
end

abbrev Sub (A B : Hp) : Prop := ∀ b o, A b = some o → B b = some o
mutual
/-- v is o; the addresses of its own objects -/
inductive Own (K : Frg) (F H : Hp) : V → O → List Addr → Prop
  | d {v : V} {d : D} : Rep K F v d → Own K F H v (.d d) []
  | l {a : Addr} {vs : List V} {os : List O} {B : List Addr} : H a = some (.lst vs) → F a = none → Owns K F H vs os B → Own K F H (.ref a) (.l os) (a :: B)
  | i {a dx : Addr} {c : Str} {fvs : List (Str × V)} {fs : List (Str × O)} {B : List Addr} : H a = some (.ins (He.ga K c) dx fvs) → F a = none → OwnF K F H fvs fs B → Own K F H (.ref a) (.i c fs) (a :: B)
  /-- a tuple is data, its parts are not -/
  | t {a : Addr} {vs : List V} {os : List O} {B : List Addr} : F a = some (.tup vs) → Owns K F H vs os B → Own K F H (.ref a) (.t os) B
inductive Owns (K : Frg) (F H : Hp) : List V → List O → List Addr → Prop
  | nil : Owns K F H [] [] []
  | cons {v : V} {o : O} {B : List Addr} {vs : List V} {os : List O} {C : List Addr} : Own K F H v o B → Owns K F H vs os C → Owns K F H (v :: vs) (o :: os) (B ++ C)
inductive OwnF (K : Frg) (F H : Hp) : List (Str × V) → List (Str × O) → List Addr → Prop
  | nil : OwnF K F H [] [] []
  | cons {f : Str} {v : V} {o : O} {B : List Addr} {vs : List (Str × V)} {os : List (Str × O)} {C : List Addr} : Own K F H v o B → OwnF K F H vs os C → OwnF K F H ((f, v) :: vs) ((f, o) :: os) (B ++ C)
end
/-- a list or an instance -/
def isLI : HO → Prop
  | .lst _ => True
  | .ins _ _ _ => True
  | _ => False
section
variable {K : Frg} {F F' H H' : Hp}
mutual
theorem Own.at : ∀ {v : V} {o : O} {B : List Addr}, Own K F H v o B → ∀ b ∈ B, (∃ u, H b = some u ∧ isLI u) ∧ F b = none
  | _, _, _, .d _, b, hb => by simp at hb
  | _, _, _, .l h1 h2 h3, b, hb => by
    rcases List.mem_cons.mp hb with e | e
    · rw [e]; exact ⟨⟨_, h1, trivial⟩, h2⟩
    · exact Owns.at h3 b e
  | _, _, _, .i h1 h2 h3, b, hb => by
    rcases List.mem_cons.mp hb with e | e
    · rw [e]; exact ⟨⟨_, h1, trivial⟩, h2⟩
    · exact OwnF.at h3 b e
  | _, _, _, .t h1 h2, b, hb => Owns.at h2 b hb
theorem Owns.at : ∀ {v : List V} {o : List O} {B : List Addr}, Owns K F H v o B → ∀ b ∈ B, (∃ u, H b = some u ∧ isLI u) ∧ F b = none
  | _, _, _, .nil, b, hb => by simp at hb
  | _, _, _, .cons h1 h2, b, hb => by
    rcases List.mem_append.mp hb with e | e
    · exact Own.at h1 b e
    · exact Owns.at h2 b e
theorem OwnF.at : ∀ {v : List (Str × V)} {o : List (Str × O)} {B : List Addr}, OwnF K F H v o B → ∀ b ∈ B, (∃ u, H b = some u ∧ isLI u) ∧ F b = none
  | _, _, _, .nil, b, hb => by simp at hb
  | _, _, _, .cons h1 h2, b, hb => by
    rcases List.mem_append.mp hb with e | e
    · exact Own.at h1 b e
    · exact OwnF.at h2 b e
end
mutual
/-- held still, it is data -/
theorem Own.frz (hs : Sub F F') : ∀ {v : V} {o : O} {B : List Addr}, Own K F H v o B → (∀ b ∈ B, F' b = H b) → Rep K F' v (frz o)
  | _, _, _, .d r, _ => by unfold VL.frz; exact r.mono hs
  | _, _, _, .l (a := a) h1 h2 h3, k => by unfold VL.frz; exact .lst ((k a List.mem_cons_self).trans h1) (Owns.frz hs h3 fun b hb => k b (List.mem_cons_of_mem _ hb))
  | _, _, _, .i (a := a) h1 h2 h3, k => by unfold VL.frz; exact .obj ((k a List.mem_cons_self).trans h1) (OwnF.frz hs h3 fun b hb => k b (List.mem_cons_of_mem _ hb))
  | _, _, _, .t h1 h2, k => by unfold VL.frz; exact .tup (.of (hs _ _ h1)) (Owns.frz hs h2 k)
theorem Owns.frz (hs : Sub F F') : ∀ {v : List V} {o : List O} {B : List Addr}, Owns K F H v o B → (∀ b ∈ B, F' b = H b) → Reps K F' v (frzL o)
  | _, _, _, .nil, _ => by unfold VL.frzL; exact .nil
  | _, _, _, .cons h1 h2, k => by unfold VL.frzL; exact .cons (Own.frz hs h1 fun b hb => k b (List.mem_append_left _ hb)) (Owns.frz hs h2 fun b hb => k b (List.mem_append_right _ hb))
theorem OwnF.frz (hs : Sub F F') : ∀ {v : List (Str × V)} {o : List (Str × O)} {B : List Addr}, OwnF K F H v o B → (∀ b ∈ B, F' b = H b) → RepF K F' v (frzF o)
  | _, _, _, .nil, _ => by unfold VL.frzF; exact .nil
  | _, _, _, .cons h1 h2, k => by unfold VL.frzF; exact .cons (Own.frz hs h1 fun b hb => k b (List.mem_append_left _ hb)) (OwnF.frz hs h2 fun b hb => k b (List.mem_append_right _ hb))
end
theorem SqT.low (h : ∀ b o, F' b = some o → F b = some o ∨ isLI o) {a : Addr} {vs : List V} (q : SqT K F' a vs) : SqT K F a vs := by
  rcases q with (q | ⟨o, q⟩) | q
  · rcases h _ _ q with z | z
    · exact .inl (.inl z)
    · exact z.elim
  · rcases h _ _ q with z | z
    · exact .inl (.inr ⟨o, z⟩)
    · exact z.elim
  · exact .inr q
mutual
theorem Rep.low (h : ∀ b o, F' b = some o → F b = some o ∨ isLI o) : ∀ {v : V} {d : D}, Rep K F' v d → flat d = true → Rep K F v d
  | _, _, .non, _ => .non
  | _, _, .bl b, _ => .bl b
  | _, _, .int i, _ => .int i
  | _, _, .str x, _ => .str x
  | _, _, .tup q r, e => .tup (SqT.low h q) (Reps.low h r (by unfold flat at e; exact e))
  | _, _, .lst q r, e => by unfold flat at e; cases e
  | _, _, .obj q r, e => by unfold flat at e; cases e
  | _, _, .scr q, e => by unfold flat at e; cases e
  | _, _, .ty n, _ => .ty n
  | _, _, .glob c, _ => .glob c
  | _, _, .rng q, _ => .rng (by
      rcases h _ _ q with z | z
      · exact z
      · exact z.elim)
theorem Reps.low (h : ∀ b o, F' b = some o → F b = some o ∨ isLI o) : ∀ {v : List V} {d : List D}, Reps K F' v d → flatL d = true → Reps K F v d
  | _, _, .nil, _ => .nil
  | _, _, .cons q r, e => by
    unfold flatL at e
    have e := Bool.and_eq_true_iff.mp e
    exact .cons (Rep.low h q e.1) (Reps.low h r e.2)
end
mutual
theorem Own.low (hl : ∀ b o, F' b = some o → F b = some o ∨ isLI o) (hs : Sub F F') : ∀ {v : V} {o : O} {B : List Addr}, Own K F' H v o B → flatO o = true → Own K F H v o B
  | _, _, _, .d r, e => .d (Rep.low hl r (by unfold flatO at e; exact e))
  | _, _, _, .l (a := a) h1 h2 h3, e => .l h1 (by
      cases q : F a with
      | none => rfl
      | some u => rw [hs _ _ q] at h2; cases h2) (Owns.low hl hs h3 (by unfold flatO at e; exact e))
  | _, _, _, .i (a := a) h1 h2 h3, e => .i h1 (by
      cases q : F a with
      | none => rfl
      | some u => rw [hs _ _ q] at h2; cases h2) (OwnF.low hl hs h3 (by unfold flatO at e; exact e))
  | _, _, _, .t (a := a) h1 h2, e => .t (by
      rcases hl _ _ h1 with z | z
      · exact z
      · exact z.elim) (Owns.low hl hs h2 (by unfold flatO at e; exact e))
theorem Owns.low (hl : ∀ b o, F' b = some o → F b = some o ∨ isLI o) (hs : Sub F F') : ∀ {v : List V} {o : List O} {B : List Addr}, Owns K F' H v o B → flatOL o = true → Owns K F H v o B
  | _, _, _, .nil, _ => .nil
  | _, _, _, .cons h1 h2, e => by
    unfold flatOL at e
    have e := Bool.and_eq_true_iff.mp e
    exact .cons (Own.low hl hs h1 e.1) (Owns.low hl hs h2 e.2)
theorem OwnF.low (hl : ∀ b o, F' b = some o → F b = some o ∨ isLI o) (hs : Sub F F') : ∀ {v : List (Str × V)} {o : List (Str × O)} {B : List Addr}, OwnF K F' H v o B → flatOF o = true → OwnF K F H v o B
  | _, _, _, .nil, _ => .nil
  | _, _, _, .cons h1 h2, e => by
    unfold flatOF at e
    have e := Bool.and_eq_true_iff.mp e
    exact .cons (Own.low hl hs h1 e.1) (OwnF.low hl hs h2 e.2)
end
theorem Owns.length : ∀ {vs : List V} {os : List O} {B : List Addr}, Owns K F H vs os B → vs.length = os.length
  | _, _, _, .nil => rfl
  | _, _, _, .cons _ r => by simp [Owns.length r]
/-- data as objects -/
theorem Reps.owns : ∀ {vs : List V} {ds : List D}, Reps K F vs ds → Owns K F H vs (ds.map .d) []
  | _, _, .nil => .nil
  | _, _, .cons q r => .cons (B := []) (.d q) (Reps.owns r)
theorem Reps.tmap {ad : List Addr} : ∀ {vs : List V} {ds : List D}, RepTs K F ad vs (ds.map .d) → Reps K F vs ds
  | [], [], .nil => .nil
  | v :: vs, d :: ds, .cons q r => .cons q (Reps.tmap r)
end

/-! ### pure steps: nothing that stood is changed -/
structure PStep (F H F' H' : Hp) : Prop where
  fsub : Sub F F'
  fnew : ∀ b o, F' b = some o → F b = some o ∨ H b = none
  hsub : Sub H H'
  sub : Sub F' H'
section
variable {F F' F'' H H' H'' : Hp}
theorem PStep.trans (a : PStep F H F' H') (b : PStep F' H' F'' H'') : PStep F H F'' H'' := by
  refine ⟨fun x o h => b.fsub x o (a.fsub x o h), fun x o h => ?_, fun x o h => b.hsub x o (a.hsub x o h), b.sub⟩
  rcases b.fnew x o h with z | z
  · exact a.fnew x o z
  · refine .inr ?_
    cases q : H x with
    | none => rfl
    | some u => rw [a.hsub x u q] at z; cases z
end
/-- the addresses of a step's new objects -/
def Fresh (H : Hp) (B : List Addr) : Prop := B.Nodup ∧ ∀ b ∈ B, H b = none
/-! ### what an expression says of the slots' data -/
abbrev WW := Value → Option Addr → L2.St → Hp → Prop
/-- an exception in the air -/
def ExR (K : Frg) (F H : Hp) (cls : Value) (dx : Option Addr) (x : Exn) : Prop :=
  cls = .ref (He.ga K x.c) ∧ ((dx = none ∧ x.fs = []) ∨ ∃ a fvs, dx = some a ∧ H a = some (.xd fvs) ∧ RepF K F fvs x.fs)
def Out {α : Type} (K : Frg) (W : WW) (τ : L2.St) (F H : Hp) (r : R Exn α) (k : α → Hp → Hp → Prop) : Prop := match r with
  | .ok a => ∀ F' H', PStep F H F' H' → k a F' H'
  | .ex x => ∀ F' H' cls dx, PStep F H F' H' → ExR K F' H' cls dx x → W cls dx τ H'
  | .no => False
theorem Out.step {α : Type} {K : Frg} {W : WW} {τ : L2.St} {F H F1 H1 : Hp} {r : R Exn α} {k : α → Hp → Hp → Prop} (h : Out K W τ F H r k) (s : PStep F H F1 H1) : Out K W τ F1 H1 r k := by
  cases r with
  | ok a => exact fun F' H' s' => h F' H' (s.trans s')
  | ex x => exact fun F' H' cls dx s' => h F' H' cls dx (s.trans s')
  | no => exact h
theorem Out.imp {α : Type} {K : Frg} {W : WW} {τ : L2.St} {F H : Hp} {r : R Exn α} {k k' : α → Hp → Hp → Prop} (h : Out K W τ F H r k) (w : ∀ a F' H', PStep F H F' H' → k a F' H' → k' a F' H') : Out K W τ F H r k' := by
  cases r with
  | ok a => exact fun F' H' s' => w a F' H' s' (h F' H' s')
  | ex x => exact h
  | no => exact h
/-- one after the other -/
theorem Out.bind {α β : Type} {K : Frg} {W : WW} {τ : L2.St} {F H : Hp} {r : R Exn α} {f : α → R Exn β} {k : β → Hp → Hp → Prop} (h : Out K W τ F H (r.bind f) k) : Out K W τ F H r fun a F' H' => Out K W τ F' H' (f a) k := by
  cases r with
  | ok a => exact fun F' H' s => Out.step h s
  | ex x => exact h
  | no => exact h
theorem PA.imp {X : Cx} {e : List Expr} {t t' : TA} (h : PA X e t) (w : ∀ τ H Q, t' τ H Q → t τ H Q) : PA X e t' := ⟨fun pos pins s σ H Q I q => h.run pos pins s σ H Q I (w _ _ _ q)⟩
end VL
/-! VL: pure expressions. -/
namespace VL
open PySem PySem.Spec PyProof.Rows L2 FL
section
variable {X : Cx} {W : WW}
theorem Out.of {α : Type} {K : Frg} {τ : L2.St} {F H : Hp} {o : Option α} {k : α → Hp → Hp → Prop} (h : Out K W τ F H (R.of o) k) : ∃ a, o = some a ∧ ∀ F' H', PStep F H F' H' → k a F' H' := by
  cases o with
  | none => exact h.elim
  | some a => exact ⟨a, rfl, h⟩
theorem Out.map {α β : Type} {K : Frg} {τ : L2.St} {F H : Hp} {r : R Exn α} {f : α → β} {k : β → Hp → Hp → Prop} (h : Out K W τ F H (r.map f) k) : Out K W τ F H r fun a F' H' => k (f a) F' H' := by
  cases r with
  | ok a => exact h
  | ex x => exact h
  | no => exact h
/-! ### names, constants -/
/-! ### operators of two values -/
abbrev G2 := D → D → Option O
def r2 (K : Frg) (g : G2) : R2 := fun x y H Q => ∃ F dx dy o, Sub F H ∧ Rep K F x dx ∧ Rep K F y dy ∧ g dx dy = some o ∧
  ∀ F' H' v B, PStep F H F' H' → Own K F' H' v o B → Fresh H B → Q v H'
def VOp (X : Cx) (f : Value → Value → Sem Value) (g : G2) : Prop := OpR X f (r2 X.K g)
/-! ### tests -/
/-! ### argument lists, displays -/
end
end VL
/-! VL: operators and built-ins upon data. -/
namespace VL
open PySem PySem.Spec PyProof.Rows L2 FL
/-! ### from places to values -/
def allD : List T → Option (List D)
  | [] => some []
  | .d d :: ts => (allD ts).map fun ds => d :: ds
  | _ => none
theorem allD_ok : ∀ {ts : List T} {ds : List D}, allD ts = some ds → ts = ds.map .d
  | [], _, e => by cases e; rfl
  | .d d :: ts, _, e => by
    obtain ⟨ds, e1, rfl⟩ := Option.map_eq_some_iff.mp e
    rw [allD_ok e1]; rfl
  | .own p :: ts, _, e => by cases e
def ansO : Option (T × Cs) → Option O
  | some (.d d, _) => some (.d d)
  | some (.own q, S) => (match S[q]? with
    | some (.lst ts) => (allD ts).map fun ds => .l (ds.map .d)
    | some (.frz d) => some (.d d)
    | _ => none)
  | none => none
theorem PStep.of_go {K : Frg} {F H F' H' : Hp} {ad' : List Addr} {S' : Cs} (g : Go K F [] H F' ad' H' S') : PStep F H F' H' :=
  ⟨g.st.fsub, fun b o h => by
    rcases g.st.fnew b o h with z | z | z
    · exact .inl z
    · simp at z
    · exact .inr z, fun b o h => g.st.keep b o h (by simp), g.rel.sub⟩
theorem go_ansO {K : Frg} {F H F' H' : Hp} {ad' : List Addr} {S' : Cs} {v : V} {t : T} {o : O} (g : Go K F [] H F' ad' H' S') (r : RepT K F' ad' v t) (e : ansO (some (t, S')) = some o) : ∃ B, Own K F' H' v o B ∧ Fresh H B := by
  cases t with
  | d d => cases e; exact ⟨[], .d r, List.nodup_nil, fun b h => by simp at h⟩
  | own q =>
    obtain ⟨a, hp, rfl⟩ := r
    have fresh : H a = none := by
      obtain ⟨l, el, hl⟩ := g.st.adx
      rw [List.nil_append] at el
      exact hl a (by rw [← el]; exact List.mem_of_getElem? hp)
    unfold ansO at e
    simp only at e
    split at e
    · rename_i ts h1
      obtain ⟨ds, e1, rfl⟩ := Option.map_eq_some_iff.mp e
      obtain ⟨hF, vs, hH, rs⟩ := g.rel.cells q a _ hp h1
      rw [allD_ok e1] at rs
      exact ⟨[a], .l hH hF (Reps.owns (Reps.tmap rs)), by simp, fun b hb => by rw [List.mem_singleton.mp hb]; exact fresh⟩
    · rename_i d h1
      cases e
      obtain ⟨rd, _⟩ := g.rel.cells q a _ hp h1
      exact ⟨[], .d rd, List.nodup_nil, fun b h => by simp at h⟩
    · cases e
theorem rel0 {K : Frg} {F H : Hp} (h : Sub F H) : RelS K F [] [] H := ⟨h, List.nodup_nil, rfl, fun p a c e _ => by simp at e⟩
section
variable {X : Cx} {W : WW}
theorem VOp.of {f : Value → Value → Sem Value} {g : OF} {g' : G2} (h : OpF X f g) (hg : ∀ x y o, g' x y = some o → ansO (g (.d x) (.d y) []) = some o) : VOp X f g' := by
  refine OpR.imp h fun x y H Q ⟨F, dx, dy, o, s, rx, ry, e, k⟩ => ?_
  have e := hg _ _ _ e
  cases q : g (.d dx) (.d dy) [] with
  | none => rw [q] at e; cases e
  | some z =>
    obtain ⟨t, S'⟩ := z
    rw [q] at e
    refine ⟨F, [], [], .d dx, .d dy, t, S', rel0 s, rx, ry, q, fun F' ad' H' v g' rt => ?_⟩
    obtain ⟨B, ow, fr⟩ := go_ansO g' rt e
    exact k F' H' v B (.of_go g') ow fr
theorem VOp.imp {f : Value → Value → Sem Value} {g g' : G2} (h : VOp X f g) (hg : ∀ x y o, g' x y = some o → g x y = some o) : VOp X f g' :=
  OpR.imp h fun x y H Q ⟨F, dx, dy, o, s, rx, ry, e, k⟩ => ⟨F, dx, dy, o, s, rx, ry, hg _ _ _ e, k⟩
/-! ### ints -/
def gI (C : Int → Int → Prop) [∀ i j, Decidable (C i j)] (g : Int → Int → D) : G2 := fun x y => match x, y with
  | .int i, .int j => if C i j then some (.d (g i j)) else none
  | _, _ => none
theorem VOp.i {f : Value → Value → Sem Value} {C : Int → Int → Prop} [∀ i j, Decidable (C i j)] {g : Int → Int → D} (h : OpF X f (oI C g)) : VOp X f (gI C g) := VOp.of h fun x y o e => by
  unfold gI at e
  split at e
  · rename_i i j
    split at e
    · rename_i hc
      cases e
      show ansO (if C i j then _ else _) = _
      rw [if_pos hc]; rfl
    · cases e
  · cases e
/-! ### + and * -/
/-! ### ==, is, in -/
/-! ### subscripts -/
/-! ### -a, chains -/
end
end VL
/-! VL: calls of built-ins. -/
namespace VL
open PySem PySem.Spec PyProof.Rows L2 FL
section
variable {X : Cx} {W : WW}
abbrev GL := List D → Option O
def rC (K : Frg) (g : GL) : List V → Hp → VK → Prop := fun vs H Q => ∃ F ds o, Sub F H ∧ Reps K F vs ds ∧ g ds = some o ∧
  ∀ F' H' v B, PStep F H F' H' → Own K F' H' v o B → Fresh H B → Q v H'
def VCall (X : Cx) (f : Value) (g : GL) : Prop := CallR X f (rC X.K g)
theorem VCall.of {f : Value} {g : MF} {g' : GL} (h : CallF X f g) (hg : ∀ ds o, g' ds = some o → ansO (g (ds.map .d) []) = some o) : VCall X f g' := by
  refine CallR.imp h fun vs H Q ⟨F, ds, o, s, rs, e, k⟩ => ?_
  have e := hg _ _ e
  cases q : g (ds.map .d) [] with
  | none => rw [q] at e; cases e
  | some z =>
    obtain ⟨t, S'⟩ := z
    rw [q] at e
    refine ⟨F, [], [], ds.map .d, t, S', rel0 s, rs.ts, q, fun F' ad' H' v g' rt => ?_⟩
    obtain ⟨B, ow, fr⟩ := go_ansO g' rt e
    exact k F' H' v B (.of_go g') ow fr
theorem VCall.imp {f : Value} {g g' : GL} (h : VCall X f g) (hg : ∀ ds o, g' ds = some o → g ds = some o) : VCall X f g' :=
  CallR.imp h fun vs H Q ⟨F, ds, o, s, rs, e, k⟩ => ⟨F, ds, o, s, rs, hg _ _ e, k⟩
section
end
/-! ### the built-ins -/
end
end VL
/-! VL: the slots of a def, its own objects, steps that change them. -/
namespace VL
open PySem PySem.Spec PyProof.Rows L2 FL
abbrev Om := List (Option O)
inductive SlO (K : Frg) (F H : Hp) : Om → L2.St → List Addr → Prop
  | nil : SlO K F H [] [] []
  | un {t : Option V} {ω : Om} {τ : L2.St} {A : List Addr} : SlO K F H ω τ A → SlO K F H (none :: ω) (t :: τ) A
  | v {v : V} {o : O} {B : List Addr} {ω : Om} {τ : L2.St} {A : List Addr} : Own K F H v o B → SlO K F H ω τ A → SlO K F H (some o :: ω) (some v :: τ) (B ++ A)
structure VRel (K : Frg) (F H : Hp) (A : List Addr) (ω : Om) (τ : L2.St) : Prop where
  sub : Sub F H
  sl : SlO K F H ω τ A
  nd : A.Nodup
/-- objects outside of A stay; new data comes of A or of new objects -/
structure VStep (F : Hp) (A : List Addr) (H F' : Hp) (A' : List Addr) (H' : Hp) : Prop where
  fsub : Sub F F'
  fnew : ∀ b o, F' b = some o → F b = some o ∨ b ∈ A ∨ H b = none
  anew : ∀ b ∈ A', b ∈ A ∨ H b = none
  keep : ∀ b o, H b = some o → b ∉ A → H' b = some o
  alive : ∀ b, H' b = none → H b = none
section
variable {K : Frg} {F F' F'' H H' H'' : Hp} {A A' A'' : List Addr} {ω : Om} {τ : L2.St}
theorem VStep.trans (s : VStep F A H F' A' H') (r : VStep F' A' H' F'' A'' H'') : VStep F A H F'' A'' H'' := by
  refine ⟨fun b o h => r.fsub b o (s.fsub b o h), fun b o h => ?_, fun b h => ?_, fun b o h hn => ?_, fun b h => s.alive b (r.alive b h)⟩
  · rcases r.fnew b o h with h | h | h
    · exact s.fnew b o h
    · exact .inr (s.anew b h)
    · exact .inr (.inr (s.alive b h))
  · rcases r.anew b h with h | h
    · exact s.anew b h
    · exact .inr (s.alive b h)
  · refine r.keep b o (s.keep b o h hn) fun hb => ?_
    rcases s.anew b hb with h' | h'
    · exact hn h'
    · rw [h'] at h; cases h
theorem SlO.at : ∀ {ω : Om} {τ : L2.St} {A : List Addr}, SlO K F H ω τ A → ∀ b ∈ A, (∃ u, H b = some u ∧ isLI u) ∧ F b = none
  | _, _, _, .nil, b, hb => by simp at hb
  | _, _, _, .un r, b, hb => SlO.at r b hb
  | _, _, _, .v o r, b, hb => by
    rcases List.mem_append.mp hb with e | e
    · exact o.at b e
    · exact SlO.at r b e
theorem SlO.length : ∀ {ω : Om} {τ : L2.St} {A : List Addr}, SlO K F H ω τ A → ω.length = τ.length
  | _, _, _, .nil => rfl
  | _, _, _, .un r => by simp [SlO.length r]
  | _, _, _, .v _ r => by simp [SlO.length r]
/-! ### a pure step seen from the slots -/
end
end VL
/-! VL: expressions that may change the slots' objects; statements. -/
namespace VL
open PySem PySem.Spec PyProof.Rows L2 FL
abbrev RX (α : Type) := R (Exn × Om) (α × Om)
abbrev EV := Om → RX D
abbrev EO := Om → RX O
abbrev EB := Om → RX Bool
def VOut {α : Type} (K : Frg) (W : WW) (τ : L2.St) (F : Hp) (A : List Addr) (H : Hp) (r : RX α) (k : α → Hp → List Addr → Hp → Om → Prop) : Prop := match r with
  | .ok (a, ω) => ∀ F' A' H', VStep F A H F' A' H' → VRel K F' H' A' ω τ → k a F' A' H' ω
  | .ex (x, ω) => ∀ F' A' H' cls dx, VStep F A H F' A' H' → VRel K F' H' A' ω τ → ExR K F' H' cls dx x → W cls dx τ H'
  | .no => False
section
variable {α β : Type} {K : Frg} {W : WW} {τ : L2.St} {F F1 H H1 : Hp} {A A1 : List Addr}
theorem VOut.imp {r : RX α} {k k' : α → Hp → List Addr → Hp → Om → Prop} (h : VOut K W τ F A H r k) (w : ∀ a F' A' H' ω', VStep F A H F' A' H' → VRel K F' H' A' ω' τ → k a F' A' H' ω' → k' a F' A' H' ω') : VOut K W τ F A H r k' := by
  cases r with
  | ok a => obtain ⟨a, ω⟩ := a; exact fun F' A' H' s' r' => w a F' A' H' ω s' r' (h F' A' H' s' r')
  | ex x => exact h
  | no => exact h
end
/-! ### pure expressions among them -/
theorem RepF.low {K : Frg} {F F' : Hp} (h : ∀ b o, F' b = some o → F b = some o ∨ isLI o) : ∀ {v : List (Str × V)} {d : List (Str × D)}, RepF K F' v d → flatL (d.map (·.2)) = true → RepF K F v d
  | _, _, .nil, _ => .nil
  | _, _, .cons q r, e => by
    rw [List.map_cons] at e
    unfold flatL at e
    have e := Bool.and_eq_true_iff.mp e
    exact .cons (Rep.low h q e.1) (RepF.low h r e.2)
theorem ExR.low {K : Frg} {F F' H : Hp} (h : ∀ b o, F' b = some o → F b = some o ∨ isLI o) {cls : Value} {dx : Option Addr} {x : Exn} (r : ExR K F' H cls dx x) (e : flatL (x.fs.map (·.2)) = true) : ExR K F H cls dx x := by
  obtain ⟨h1, h2 | ⟨a, fvs, h2, h3, h4⟩⟩ := r
  · exact ⟨h1, .inl h2⟩
  · exact ⟨h1, .inr ⟨a, fvs, h2, h3, RepF.low h h4 e⟩⟩
section
/-! ### compound expressions -/
section
end
end
end VL
/-! VL: statements. -/
namespace VL
open PySem PySem.Spec PyProof.Rows L2 FL
inductive Fl where
  | nx | bk | ct | rt (o : O)
abbrev VS := Om → RX Fl
/-- these slots' values do not change -/
def Pin (P : List Nat) (τ τ' : L2.St) : Prop := ∀ i ∈ P, τ'[i]? = τ[i]?
theorem Pin.trans {P : List Nat} {τ τ' τ'' : L2.St} (a : Pin P τ τ') (b : Pin P τ' τ'') : Pin P τ τ'' := fun i h => (b i h).trans (a i h)
section
end
section
variable {X : Cx} {W : WW} {P : List Nat} {st : Stmt} {rest : List Stmt} {f g : VS} {e : Expr} {pos : Pos}
/-! ### targets that take data -/
inductive ItD where
  | one (d : D) | tup (ds : List D)
def ItmD (K : Frg) (F : Hp) (v : V) : ItD → Prop
  | .one d => Rep K F v d
  | .tup ds => ∃ a vs, v = .ref a ∧ SqT K F a vs ∧ Reps K F vs ds
def itD : ItD → D
  | .one d => d
  | .tup ds => .tup ds
theorem ItmD.d {K : Frg} {F : Hp} {v : V} {it : ItD} (h : ItmD K F v it) : Rep K F v (itD it) := by
  cases it with
  | one d => exact h
  | tup ds => obtain ⟨a, vs, rfl, q, r⟩ := h; exact .tup q r
end
end VL
/-! VL: what is walked, for, while. -/
namespace VL
open PySem PySem.Spec PyProof.Rows L2 FL
/-! ### each kind -/
/-! ### the readings behind the arguments -/
section
end
section
/-! sequences -/
/-! enumerate -/
/-! zip -/
/-! ### for -/
/-! ### while -/
end
end VL
/-! VL: comprehensions. -/
namespace VL
open PySem PySem.Spec PyProof.Rows L2 FL
/-! ### targets, pure -/
section
/-! ### the pure comprehension -/
end
end VL
/-! VL: comprehensions that change what the slots own; a name that gets a comprehension. -/
namespace VL
open PySem PySem.Spec PyProof.Rows L2 FL
section
end
/-! ### slots of a comprehension -/
/-! ### the comprehension -/
section
/-! ### y = [.. for ..] -/
section
end
end
end VL
/-! VL: lists that are changed. -/
namespace VL
open PySem PySem.Spec PyProof.Rows L2 FL
/-! ### a place within a slot's object -/
inductive SubV (H : Hp) : V → List Nat → V → Prop
  | nil {v : V} : SubV H v [] v
  | ix {a : Addr} {vs : List V} {k : Nat} {v1 v2 : V} {p : List Nat} : H a = some (.lst vs) → vs[k]? = some v1 → SubV H v1 p v2 → SubV H (.ref a) (k :: p) v2
  | tx {a : Addr} {vs : List V} {k : Nat} {v1 v2 : V} {p : List Nat} : H a = some (.tup vs) → vs[k]? = some v1 → SubV H v1 p v2 → SubV H (.ref a) (k :: p) v2
section
end
end VL
/-! VL: places, and what changes the list at a place. -/
namespace VL
open PySem PySem.Spec PyProof.Rows L2 FL
def AtPl (H : Hp) (τ : L2.St) (q : Nat × List Nat) (v : V) : Prop := ∃ v0, τ[q.1]? = some (some v0) ∧ SubV H v0 q.2 v
section
variable {X : Cx} {W : WW} {e : Expr} {pos : Pos}
theorem AtPl.nil {H : Hp} {τ : L2.St} {i : Nat} {v : V} (h : τ[i]? = some (some v)) : AtPl H τ (i, []) v := ⟨v, h, .nil⟩
/-! ### xs.append(e), xs.extend(e), .. of a name -/
section
end
end
end VL
/-! VL: xs[i] = e, xs[i] += e, pop, extend. -/
namespace VL
open PySem PySem.Spec PyProof.Rows L2 FL
section
/-! ### xs[i] += e -/
/-! ### xs.pop(), xs.extend(..) -/
end
end VL
/-! VL: defs and calls of defs. -/
namespace VL
open PySem PySem.Spec PyProof.Rows L2 FL
/-! ### a def that changes nothing that stood -/
abbrev PFn := List D → R Exn O
def spP (K : Frg) (n : Nat) (f : PFn) : Sp := fun vs H Q _ => ∃ F ds, Sub F H ∧ Reps K F vs ds ∧ ds.length = n ∧ match f ds with
  | .ok o => ∀ F' H' v B, PStep F H F' H' → Own K F' H' v o B → Fresh H B → Q v H'
  | _ => False
section
end
section
end
section
end
/-! ### a def that changes objects of its caller: those of the parameters in P -/
section
end
/-! ### arguments: data, a slot's object, a new object -/
section
end
end VL
/-! VL: slices, in, the law's end. -/
namespace VL
open PySem PySem.Spec PyProof.Rows L2 FL
section
/-! ### in -/
/-! ### truth -/
end
/-! ### the law's end -/
end VL
/-! VL: some more rules. -/
namespace VL
open PySem PySem.Spec PyProof.Rows L2 FL
section
/-! ### reversed(range(..)) -/
section
end
end
end VL
namespace VL
open PySem PySem.Spec PyProof.Rows L2 FL
section
/-! ### xs.extend(e), pl.append(e) -/
end
end VL
/-! VL: reckoning with the mirrors by simp. -/
namespace VL
open PySem PySem.Spec PyProof.Rows L2 FL
/-! ### pure -/
section
/-! what is walked -/
end
/-! ### operators upon data -/
section
end
/-! ### flat, frz, views -/
section
end
/-! ### expressions that change; statements -/
section
/-! calls that change -/
/-! statements -/
end
end VL
/-! VL: loops, comprehensions, what holds behind a statement. -/
namespace VL
open PySem PySem.Spec PyProof.Rows L2 FL
/-! ### encoded sequences -/
section
end
/-! ### comprehensions -/
section
end
/-! ### what holds behind a statement -/
def Wz (r : RX Fl) (nx ct bk : Om → Prop) (rt : O → Om → Prop) : Prop := match r with
  | .ok (.nx, ω) => nx ω
  | .ok (.ct, ω) => ct ω
  | .ok (.bk, ω) => bk ω
  | .ok (.rt o, ω) => rt o ω
  | _ => False
def WXz {α : Type} (r : RX α) (Q : α → Om → Prop) : Prop := match r with
  | .ok (a, ω) => Q a ω
  | _ => False
/-- closed, so that nothing is reckoned where it is only matched -/
structure W (r : RX Fl) (nx ct bk : Om → Prop) (rt : O → Om → Prop) : Prop where
  h : Wz r nx ct bk rt
structure WX {α : Type} (r : RX α) (Q : α → Om → Prop) : Prop where
  h : WXz r Q
theorem WX.imp {α : Type} {r : RX α} {Q Q' : α → Om → Prop} (h : WX r Q) (w : ∀ a ω, Q a ω → Q' a ω) : WX r Q' := by
  obtain ⟨h⟩ := h
  refine ⟨?_⟩
  cases r with
  | ok p => exact w _ _ h
  | ex x => exact h
  | no => exact h
theorem WX.ok {α : Type} {r : RX α} {a : α} {ω : Om} {Q : α → Om → Prop} (e : r = .ok (a, ω)) (h : Q a ω) : WX r Q := ⟨by rw [e]; exact h⟩
theorem W.imp {r : RX Fl} {nx ct bk nx' ct' bk' : Om → Prop} {rt rt' : O → Om → Prop} (h : W r nx ct bk rt) (h1 : ∀ ω, nx ω → nx' ω) (h2 : ∀ ω, ct ω → ct' ω) (h3 : ∀ ω, bk ω → bk' ω) (h4 : ∀ o ω, rt o ω → rt' o ω) : W r nx' ct' bk' rt' := by
  obtain ⟨h⟩ := h
  refine ⟨?_⟩
  cases r with
  | ok p =>
    obtain ⟨fl, ω⟩ := p
    cases fl with
    | nx => exact h1 _ h
    | ct => exact h2 _ h
    | bk => exact h3 _ h
    | rt o => exact h4 _ _ h
  | ex x => exact h
  | no => exact h
section
variable {f g : VS} {ω : Om} {nx ct bk : Om → Prop} {rt : O → Om → Prop} {i : Nat} {fe : EO} {ev : EV} {c : EB}
theorem WX.r {α : Type} {a : α} {Q : α → Om → Prop} (h : Q a ω) : WX (.ok (a, ω)) Q := ⟨h⟩
section
end
/-! ### expressions -/
section
end
end
/-! ### defs -/
section
end
end VL
/-! VL: stores by simp; the laws' usual defs. -/
namespace VL
open PySem PySem.Spec PyProof.Rows L2 FL
section
end
/-! ### the laws' usual defs -/
end VL
/-! VL: ranges; data that compare as their values do. -/
namespace VL
open PySem PySem.Spec PyProof.Rows L2 FL
/-! ### encodings -/
structure EqE {α : Type} [DecidableEq α] (e : α → D) (k : Nat) (p : α → PyData) : Prop where
  py : ∀ a, pyD (e a) = some (p a)
  can : ∀ a, (p a).canLay0 = true
  dep : ∀ a, (p a).depth ≤ k
  eq : ∀ a b, (p a).eqv (p b) = decide (a = b)
section
variable {α β γ : Type} [DecidableEq α] [DecidableEq β] [DecidableEq γ] {e : α → D} {e' : β → D} {e'' : γ → D} {k k' k'' : Nat} {p : α → PyData} {p' : β → PyData} {p'' : γ → PyData}
theorem EqE.int : EqE D.int 0 PyData.int := ⟨fun _ => rfl, fun _ => rfl, fun _ => Nat.le_refl _, fun a b => by rw [PyData.eqv, Bool.beq_eq_decide_eq]⟩
theorem EqE.bl : EqE D.bl 0 PyData.bool := ⟨fun _ => rfl, fun _ => rfl, fun _ => Nat.le_refl _, fun a b => by rw [PyData.eqv, Bool.beq_eq_decide_eq]⟩
theorem EqE.pys (h : EqE e k p) : ∀ xs : List α, pyDs (xs.map e) = some (xs.map p)
  | [] => rfl
  | x :: xs => by
    show ((pyD (e x)).bind fun p => (pyDs (xs.map e)).map fun q => p :: q) = _
    rw [h.py x, h.pys xs]; rfl
theorem EqE.cans (h : EqE e k p) : ∀ xs : List α, PyData.canLayAll0 (xs.map p) = true
  | [] => rfl
  | x :: xs => by
    show (PyData.canLay0 (p x) && PyData.canLayAll0 (xs.map p)) = true
    rw [h.can x, h.cans xs]; rfl
theorem EqE.deps (h : EqE e k p) : ∀ xs : List α, PyData.depthAll (xs.map p) ≤ k
  | [] => Nat.zero_le _
  | x :: xs => by
    show max (PyData.depth (p x)) (PyData.depthAll (xs.map p)) ≤ k
    exact Nat.max_le.mpr ⟨h.dep x, h.deps xs⟩
theorem EqE.eqs (h : EqE e k p) : ∀ xs ys : List α, PyData.eqvAll (xs.map p) (ys.map p) = decide (xs = ys)
  | [], [] => by simp [PyData.eqvAll]
  | [], y :: ys => by simp [PyData.eqvAll]
  | x :: xs, [] => by simp [PyData.eqvAll]
  | x :: xs, y :: ys => by
    simp only [List.map_cons, PyData.eqvAll, h.eq, h.eqs xs ys]
    by_cases c : x = y <;> simp [c]
theorem EqE.lst (h : EqE e k p) : EqE (fun xs : List α => D.lst (xs.map e)) (k + 1) fun xs => .list (xs.map p) where
  py xs := by
    show (pyDs (xs.map e)).map PyData.list = _
    rw [h.pys]; rfl
  can xs := h.cans xs
  dep xs := by
    show PyData.depthAll (xs.map p) + 1 ≤ k + 1
    have := h.deps xs
    omega
  eq xs ys := by rw [PyData.eqv, h.eqs]
theorem EqE.tup (h : EqE e k p) : EqE (fun xs : List α => D.tup (xs.map e)) (k + 1) fun xs => .tuple (xs.map p) where
  py xs := by
    show (pyDs (xs.map e)).map PyData.tuple = _
    rw [h.pys]; rfl
  can xs := h.cans xs
  dep xs := by
    show PyData.depthAll (xs.map p) + 1 ≤ k + 1
    have := h.deps xs
    omega
  eq xs ys := by rw [PyData.eqv, h.eqs]
end
end VL
/-! VL: draws behind WX; cuts. -/
namespace VL
open PySem PySem.Spec PyProof.Rows L2 FL
section
end
end VL
/-! VL: defs with keyword-only parameters that have defaults. -/
namespace VL
open PySem PySem.Spec PyProof.Rows L2 FL
section
end
theorem PK.imp {X : Cx} {e : List Keyword} {t t' : TA} (h : PK X e t) (w : ∀ τ H Q, t' τ H Q → t τ H Q) : PK X e t' := ⟨fun pos pins s σ H Q I q => h.run pos pins s σ H Q I (w _ _ _ q)⟩
section
end
section
end
end VL
/-! VL: sorted(set(list of ints)), up to 1000 of them. -/
namespace VL
open PySem PySem.Spec PyProof.Rows L2 FL
section
end
section
end
end VL
/-! VL: methods of data: list.index of ints. -/
namespace VL
open PySem PySem.Spec PyProof.Rows L2 FL
section
end
end VL
/-! VL: one statement at a time, with what it computes. -/
namespace VL
open PySem PySem.Spec PyProof.Rows L2 FL
section
end
end VL
/-! VL: classes: their instances made, their fields read and stored, their methods called. -/
namespace VL
open PySem PySem.Spec PyProof.Rows L2 FL
/-! ### texts of defs, and how their parameters are bound -/
structure Dx where
  name : Str
  qual : Str
  params : Arguments
  body : List Stmt
  scope : Scope
  dvs : List V
  kws : List (Str × V)
def Dx.At (d : Dx) (K : Frg) (a : Addr) (fd : FuncData) : Prop := FunD K d.name d.qual d.params d.body d.scope d.dvs d.kws a fd
/-- the def of the text d that stands at a keeps the promise sp -/
structure OkD (P : Program) (w : World) (K : Frg) (mg : Str → Option Value) (k : Nat) (a : Addr) (d : Dx) (ps : List Str) (sp : Sp) : Prop where
  ex : ∃ fd, d.At K a fd ∧ ∀ base : Heap, FnOk P w K mg base CX0 k a fd ps sp
/-- n values are written, dds fill up -/
def Bd (K : Frg) (d : Dx) (ps : List Str) (n : Nat) (dds : List D) : Prop := ∀ a fd, d.At K a fd → ∃ dv ds, Vals dv ds ∧ Binds K fd ps ds ∧ ∀ F, Reps K F dv dds
section
end
/-! ### a def of such a text -/
section
end
/-! ### calls of pure defs -/
section
end
end VL
/-! VL: instances. -/
namespace VL
open PySem PySem.Spec PyProof.Rows L2 FL
section
end
/-! ### classes as values -/
section
variable {X : Cx} {W : WW}
/-! ### fields read -/
/-! ### a method called: the class tells which def -/
abbrev MTab := List (Str × PFn × List D)
/-- what of the class c and its method m must be known: n values are written -/
def MeOk (X : Cx) (k n : Nat) (m c : Str) (f : PFn) (dds : List D) : Prop := Cls X.K (He.ga X.K c) ∧ ∃ a, Meth X.K (He.ga X.K c) m a ∧ ∃ d ps, OkD X.prog X.w X.K X.mg k a d ps (spP X.K (n + 1 + dds.length) f) ∧ Bd X.K d ps (n + 1) dds
section
end
end
end VL
/-! VL: instances made; fields stored. -/
namespace VL
open PySem PySem.Spec PyProof.Rows L2 FL
/-! ### self.f = e -/
theorem OwnF.length {K : Frg} {F H : Hp} : ∀ {vs : List (Str × V)} {os : List (Str × O)} {B : List Addr}, OwnF K F H vs os B → vs.length = os.length
  | _, _, _, .nil => rfl
  | _, _, _, .cons _ r => by simp [OwnF.length r]
section
end
end VL
/-! VL: instances made. -/
namespace VL
open PySem PySem.Spec PyProof.Rows L2 FL
section
end
section
end
/-! ### isinstance -/
/-- one own class c: what isinstance(x, c) answers of a value of own class, or of a built-in type -/
structure IsTab where
  own : List (Str × Str × Bool)
  ty : List (String × Str × Bool)
def insF (K : Frg) (c : Str) : Prop := Cls K (He.ga K c) ∧ PySem.W.findIn K (.ref (He.ga K c)) "__class__" = some (some (.builtin "object.__class__")) ∧
  PySem.W.specialIn K (.builtin "object.__class__") "__get__" = some (some (.builtin "getset_descriptor.__get__")) ∧ PySem.W.takesIn K (.builtin "object.__class__") = some true ∧ PySem.W.mroIn K (He.ga K c) (.type "object") = some true
structure IsTab.Ok (K : Frg) (T : IsTab) : Prop where
  own : ∀ q ∈ T.own, insF K q.1 ∧ PySem.W.kitOne K (.ref (He.ga K q.1)) (.ref (He.ga K q.2.1)) = some q.2.2
  ty : ∀ q ∈ T.ty, PySem.W.kitOne K (.type q.1) (.ref (He.ga K q.2.1)) = some q.2.2
end VL
/-! VL: the head's facts of classes; reckoning with instances. -/
namespace VL
open PySem PySem.Spec PyProof.Rows L2 FL
/-! ### the head with one more Bool -/
abbrev AlV : Type := He.AlD × Bool
/-! ### what isinstance needs -/
def eqOO (a b : Option (Option Value)) : Bool := decide (a = b)
def eqOB (a b : Option Bool) : Bool := decide (a = b)
def insB (K : Frg) (c : Str) : Bool := (He.Fa.cls c).ok K && (eqOO (PySem.W.findIn K (.ref (He.ga K c)) "__class__") (some (some (.builtin "object.__class__"))) &&
  (eqOO (PySem.W.specialIn K (.builtin "object.__class__") "__get__") (some (some (.builtin "getset_descriptor.__get__"))) && (eqOB (PySem.W.takesIn K (.builtin "object.__class__")) (some true) && eqOB (PySem.W.mroIn K (He.ga K c) (.type "object")) (some true))))
/-! ### lists of facts -/
/-! ### reckoning -/
section
end
section
end
end VL
/-! VL: stepping through expressions that draw. -/
namespace VL
open PySem PySem.Spec PyProof.Rows L2 FL
section
end
end VL
/-! VL: an own exception's __init__ that says super().__init__(..). -/
namespace L2
open PySem PySem.Spec PyProof.Rows PySem.W
/-! ### ValueError.__init__ bound to an instance, called -/
section
end
end L2
/-! VL: an own exception's __init__ that says super().__init__(..): the rule. -/
namespace L2
open PySem PySem.Spec PyProof.Rows PySem.W
end L2
/-! VL: own exceptions made: their fields from the arguments. -/
namespace VL
open PySem PySem.Spec PyProof.Rows L2 FL
theorem RepF.len {K : Frg} {F : Hp} : ∀ {fvs : List (Str × V)} {fs : List (Str × D)}, RepF K F fvs fs → fvs.length = fs.length
  | _, _, .nil => rfl
  | _, _, .cons _ r => by simp [RepF.len r]
section
end
end VL
/-! VL: own exceptions: the written part's facts, the rule of __init__, raise. -/
namespace VL
open PySem PySem.Spec PyProof.Rows L2 FL
/-- the text of an exception's __init__ -/
structure Sx where
  name : Str
  qual : Str
  params : Arguments
  body : List Stmt
  scope : Scope
end VL
/-! VL: raise; defs that may raise; instances whose __init__ may raise. -/
namespace L2
open PySem PySem.Spec PyProof.Rows
section
end
end L2
namespace VL
open PySem PySem.Spec PyProof.Rows L2 FL
/-! ### raise C(e, ..) -/
section
end
/-! ### defs that may raise -/
section
end
/-! ### their calls -/
section
end
end VL
/-! VL: isinstance of a caught exception that has a dict. -/
namespace PySem.W
open PySem PySem.Spec PySem.Calls PyProof.Rows
section
end
end PySem.W
namespace L2
open PySem PySem.Spec PyProof.Rows
end L2
/-! VL: try: .. except C as e: .. -/
namespace VL
open PySem PySem.Spec PyProof.Rows L2 FL
/-! ### expressions of a suite, for the exception x -/
section
/-! argument lists, tuples, calls of built-ins -/
end
/-! ### the exception itself -/
section
end
end VL
/-! VL: the suite of an except clause; try. -/
namespace VL
open PySem PySem.Spec PyProof.Rows L2 FL
section
end
/-! ### try -/
section
end
end VL
/-! VL: exceptions: the head's facts, reckoning. -/
namespace VL
open PySem PySem.Spec PyProof.Rows L2 FL
/-! ### the head with exceptions' __init__ -/
abbrev FnS : Type := Option (Str × Str × Arguments × FuncBody × Scope × Addr × Addr)
def fnS (K : Frg) (c : Str) : FnS := match K.lookup (He.ma K (He.ga K c) "__init__") with
  | some ⟨_, _, .func fd, _⟩ => some (fd.name, fd.qualname, fd.params, fd.body, fd.scope, fd.globals, fd.builtins)
  | _ => none
def Sx.val (d : Sx) : FnS := some (d.name, d.qual, d.params, .stmts d.body, d.scope, mainGlobals, builtinsNs)
abbrev AlW : Type := AlV × List FnS
/-- what the objects at these places name, but for the module's own dicts -/
def stepF (g : Addr → Option Obj) (as : List Addr) : List Addr := as.flatMap fun a => match g a with
  | some o => (He.refsD o).filter fun b => b != mainGlobals && b != builtinsNs
  | none => []
def goF (g : Addr → Option Obj) : Nat → List Addr → List Addr
  | 0, as => as
  | n + 1, as => as ++ goF g n (stepF g as)
def asW (n : Nat) (g : Addr → Option Obj) : List Addr := goF g n [mainGlobals] ++ [cStatics]
def obsW (n : Nat) (fa : List He.Fa) (fn : List He.DefD) (sn : List (Str × Sx)) (ex : Frg → Bool) (g : Addr → Option Obj) : AlW := ((He.obsD fa fn (He.frG g (asW n g)), ex (He.frG g (asW n g))), sn.map fun q => fnS (He.frG g (asW n g)) q.1)
structure SaysW (fa : List He.Fa) (fn : List He.DefD) (sn : List (Str × Sx)) (ex : Frg → Bool) (K : Frg) : Prop where
  d : He.SaysD fa fn K
  x : ex K = true
  s : sn.map (fun q => fnS K q.1) = sn.map fun q => q.2.val
def hookW (n : Nat) (fa : List He.Fa) (fn : List He.DefD) (sn : List (Str × Sx)) (ex : Frg → Bool) : PySem.W.Hook where
  α := AlW
  obs := fun s => obsW n fa fn sn ex s.heap.get?
  val := fun _ => ((He.valD fn, true), sn.map fun q => q.2.val)
  says := fun _ h => ∃ K : PySem.W.Frag, K.In h ∧ SaysW fa fn sn ex K
  of := fun _ _ e => ⟨_, He.frG_in, congrArg (fun z : AlW => z.1.1) e, congrArg (fun z : AlW => z.1.2) e, (show ((obsW n fa fn sn ex _).2 = _) from congrArg (fun z : AlW => z.2) e)⟩
  keeps := fun _ _ _ ⟨K, hK, c⟩ k => ⟨K, PySem.W.Frag.In.keeps hK k, c⟩
/-! tables -/
/-! ### reckoning -/
section
end
end VL
/-! VL: own classes' special methods: in, bool, binary operators (machine part). -/
namespace L2
open PySem PySem.Spec PyProof.Rows PySem.W
section
end
section
end
end L2
/-! VL: own classes' special methods: in, bool, binary operators. -/
namespace L2
open PySem PySem.Spec PyProof.Rows PySem.W
section
end
end L2
namespace VL
open PySem PySem.Spec PyProof.Rows L2 FL
section
variable {X : Cx} {k n : Nat} {tb : MTab}
theorem MeOk.at {m c : Str} {f : PFn} (h : MeOk X k n m c f []) : ∃ a fd ps, Meth X.K (He.ga X.K c) m a ∧ Binds X.K fd ps [] ∧ ∀ base, FnOk X.prog X.w X.K X.mg base CX0 k a fd ps (spP X.K (n + 1) f) := by
  obtain ⟨_, a, M, d, ps, O, B⟩ := h
  obtain ⟨fd, F, G⟩ := O.ex
  obtain ⟨dv, us, hv, b, rd⟩ := B a fd F
  have e := (rd (fun _ => none)).length
  have e : dv = [] := List.eq_nil_of_length_eq_zero e
  subst e
  have e2 : us = [] := List.eq_nil_of_length_eq_zero hv.length.symm
  subst e2
  exact ⟨a, fd, ps, M, b, G⟩
end
end VL
/-! VL: a loop over an instance whose __iter__ says return iter(self.f), f a tuple. -/
namespace L2
open PySem PySem.Spec PyProof.Rows PySem.W
section
end
section
end
end L2
namespace VL
open PySem PySem.Spec PyProof.Rows L2 FL
section
end
end VL
/-! VL: sorted of a list of pairs of ints. -/
namespace VL
open PySem PySem.Spec PyProof.Rows L2 FL
section
end
end VL
/-! VL: own special methods: the head's facts, reckoning. -/
namespace VL
open PySem PySem.Spec PyProof.Rows L2 FL
/-! ### reckoning -/
section
end
end VL
namespace VL
open PySem PySem.Spec PyProof.Rows L2 FL
end VL
/-! VL: sums of tuples of any lengths. -/
namespace VL
open PySem PySem.Spec PyProof.Rows L2 FL
section
end
end VL
/-! VL: for x in reversed(list or tuple). -/
namespace VL
open PySem PySem.Spec PyProof.Rows L2 FL
section
end
end VL
/-! VL: xs[::-1] of a list. -/
namespace VL
open PySem PySem.Spec PyProof.Rows L2 FL
section
end
end VL
/-! VL: < > <= >= of data that are alike (tuples, lists, texts). -/
namespace VL
open PySem PySem.Spec PyProof.Rows L2 FL
def notNon : PyData → Bool
  | .none => false
  | _ => true
theorem ne_notNon {p : PyData} (h : p ≠ .none) : notNon p = true := by
  cases p <;> first | rfl | exact absurd rfl h
def ordD (x y : D) : Option Bool := match pyD x, pyD y with
  | some p, some q => if PySem.W.alike p q = true ∧ notNon p = true ∧ p.depth ≤ 60 then some (PySem.W.dataLt p q) else none
  | _, _ => none
section
end
/-- an ordered encoding -/
structure OrdE {α : Type} [DecidableEq α] [PySem.W.DatumOrd α] (e : α → D) (k : Nat) : Prop where
  py : ∀ a : α, pyD (e a) = some (PySem.W.Datum.toD a)
  dep : ∀ a : α, (PySem.W.Datum.toD a).depth ≤ k
section
variable {α β : Type} [DecidableEq α] [PySem.W.DatumOrd α] [DecidableEq β] [PySem.W.DatumOrd β] {e : α → D} {e' : β → D} {k k' : Nat}
theorem OrdE.lt (h : OrdE e k) (hk : k ≤ 60) (a b : α) : ordD (e a) (e b) = some (PySem.W.DatumOrd.lt a b) := by
  unfold ordD
  rw [h.py a, h.py b]
  show (if _ then _ else _) = _
  rw [if_pos ⟨PySem.W.DatumOrd.alike a b, ne_notNon (PySem.W.DatumOrd.notNone a), Nat.le_trans (h.dep a) hk⟩, PySem.W.DatumOrd.lt_eq]
theorem OrdE.int : OrdE (α := Int) D.int 0 := ⟨fun _ => rfl, fun _ => Nat.le_refl _⟩
theorem OrdE.pys (h : OrdE e k) : ∀ xs : List α, pyDs (xs.map e) = some (xs.map PySem.W.Datum.toD)
  | [] => rfl
  | x :: xs => by
    show ((pyD (e x)).bind fun p => (pyDs (xs.map e)).map fun q => p :: q) = _
    rw [h.py x, h.pys xs]; rfl
theorem OrdE.deps (h : OrdE e k) : ∀ xs : List α, PyData.depthAll (xs.map PySem.W.Datum.toD) ≤ k
  | [] => Nat.zero_le _
  | x :: xs => by
    show max (PyData.depth _) (PyData.depthAll (xs.map PySem.W.Datum.toD)) ≤ k
    exact Nat.max_le.mpr ⟨h.dep x, h.deps xs⟩
theorem OrdE.lst (h : OrdE e k) : OrdE (α := List α) (fun xs => .lst (xs.map e)) (k + 1) := ⟨fun xs => by
  show (pyDs (xs.map e)).map PyData.list = _
  rw [h.pys xs]; rfl, fun xs => by
  show PyData.depth (.list (xs.map PySem.W.Datum.toD)) ≤ k + 1
  have := h.deps xs
  unfold PyData.depth
  omega⟩
end
end VL
/-! VL: zip of a list and a tuple, in either order. -/
namespace VL
open PySem PySem.Spec PyProof.Rows L2 FL
section
end
/-! ### as items -/
section
end
end VL
/-! VL: a slot's object is held still, from an expression on. -/
namespace VL
open PySem PySem.Spec PyProof.Rows L2 FL
section
end
section
end
/-! ### sequences of either kind -/
section
end
section
end
/-! ### comprehensions whose elements draw -/
section
end
/-! ### in -/
section
end
end VL
/-! VL: an item of a new list as an object of its own; x[::-1] of a slot's own list, whose items stay objects. -/
namespace VL
open PySem PySem.Spec PyProof.Rows L2 FL
section
end
section
end
section
end
end VL
/-! VL: for x in a slot's own list, whose items the body changes: the item is lent to the name's slot for each turn. -/
namespace VL
open PySem PySem.Spec PyProof.Rows L2 FL
section
end
end VL
/-! VL: stepping rules (loops that change items, nested stores, tuple targets, extend); tables of optional numbers. -/
namespace VL
open PySem PySem.Spec PyProof.Rows L2 FL
section
end
/-! ### optional numbers -/
/-! ### rows and tables as functions -/
section
end
end VL
/-! VL: places in a def's text (scopes of comprehensions that stand in comprehensions). -/
namespace VL
open PySem PySem.Spec PyProof.Rows L2 FL
end VL
/-! VL: the scope of a comprehension that stands in another's. -/
namespace VL
open PySem PySem.Spec PyProof.Rows L2 FL
end VL
/-! VL: an if in an except suite whose test sees all slots held still. -/
namespace VL
open PySem PySem.Spec PyProof.Rows L2 FL
section
end
section
end
end VL
/-! VL: str of an int; the empty tuple as a default. -/
namespace VL
open PySem PySem.Spec PyProof.Rows L2 FL
section
end
/-! ### the empty tuple as a default -/
end VL
/-! VL: xs.clear(); calls of own defs in an except suite. -/
namespace VL
open PySem PySem.Spec PyProof.Rows L2 FL
section
end
section
end
section
end
end VL
/-! VL: a slot's object held still from a value on (a for's iterable). -/
namespace VL
open PySem PySem.Spec PyProof.Rows L2 FL
section
end
section
end
/-! ### an operator whose answer is a new object, of expressions that may change -/
section
end
section
end
/-! ### an int in a tuple of ints -/
section
end
end VL
/-! VL: calls of own defs within an except suite (defs that raise nothing and need no calm: no loops). -/
namespace VL
open PySem PySem.Spec PyProof.Rows L2 FL
section
end
section
end
section
end
end VL
/-! VL: calls of defs that may raise or have defaults, with arguments that draw. -/
namespace VL
open PySem PySem.Spec PyProof.Rows L2 FL
section
end
section
end
end VL
/-! VL: x = t[k]; x.append(e), where t owns a tuple whose part k is a list. -/
namespace VL
open PySem PySem.Spec PyProof.Rows L2 FL
section
end
section
end
/-! ### is True, is not True of a bool -/
end VL
/-! VL: sorted of a list or tuple of alike data (empty tuples among them, too). -/
namespace VL
open PySem PySem.Spec PyProof.Rows L2 FL
namespace Sd
open PySem.W PySem.Calls PySem.SeqAt
section
end
end Sd
/-! ### as a value -/
section
end
/-! ### what it gives -/
section
end
end VL
/-! VL: list(reversed(a list)), xs.pop(i), rows[k].insert(i, x). -/
namespace VL
open PySem PySem.Spec PyProof.Rows L2 FL
namespace Sd
open PySem.Calls
section
end
section
end
end Sd
section
end
end VL
/-! VL: xs.pop(i), rows[k].insert(i, x). -/
namespace VL
open PySem PySem.Spec PyProof.Rows L2 FL
section
variable {X : Cx} {W : WW} {P : List Nat} {e e2 o : Expr} {f : EV} {x : Str} {npos apos cpos pos : Pos}
theorem Owns.getD {K : Frg} {F H : Hp} : ∀ {vs : List V} {os : List O} {B : List Addr} {k : Nat} {d : D}, Owns K F H vs os B → os[k]? = some (.d d) → ∃ w, vs[k]? = some w ∧ Rep K F w d
  | _, _, _, k, _, .nil, e => by simp at e
  | _, _, _, 0, _, .cons ow r, e => by
    cases e
    cases ow with
    | d rr => exact ⟨_, rfl, rr⟩
  | _, _, _, k + 1, d, .cons ow r, e => by
    obtain ⟨w, h1, h2⟩ := Owns.getD (k := k) (d := d) r (by simpa using e)
    exact ⟨w, by simpa using h1, h2⟩
end
end VL
/-! VL: xs.insert(i, x) of a name, with an index that draws. -/
namespace VL
open PySem PySem.Spec PyProof.Rows L2 FL
section
end
end VL
/-! VL: sorted of a new list; its items stay objects. -/
namespace VL
open PySem PySem.Spec PyProof.Rows L2 FL
section
end
section
end
end VL
/-! VL: m >>= i; & and | of numbers from 0 on are those of Nat. -/
namespace VL
open PySem PySem.Spec PyProof.Rows L2 FL
end VL
/-! VL: comprehensions whose condition draws; slices xs[k:] and xs[:k]. -/
namespace VL
open PySem PySem.Spec PyProof.Rows L2 FL
section
end
end VL
/-! VL: operators of several own classes (their operands may be of any of them). -/
namespace VL
open PySem PySem.Spec PyProof.Rows L2 FL
section
end
end VL
/-! VL: a comparison whose left side changes slots and whose right side reads own objects (the answer is flat). -/
namespace VL
open PySem PySem.Spec PyProof.Rows L2 FL
section
end
section
end
end VL
/-! Where a def's own objects are lists only, an answer that has no list in it (objects may stand in it) is none of them. -/
namespace VL
open PySem PySem.Spec PyProof.Rows L2 FL
section
end
section
end
end VL
/-! x or y as a value, where x need not be a bool -/
namespace L2
open PySem PySem.Spec PyProof.Rows FL
section
end
end L2
namespace VL
open PySem PySem.Spec PyProof.Rows L2 FL
section
end
end VL
/-! raise C('text') of an own exception class without an own __init__ (below ValueError) -/
namespace VL
open PySem PySem.Spec PyProof.Rows L2 FL
section
end
end VL
/-! int of a truth value; a number in a tuple of two -/
namespace VL
open PySem PySem.Spec PyProof.Rows L2 FL
section
end
end VL
/-! VL: a for and a comprehension that use up a list of their own: each item is the name's (or names') object. -/
namespace VL
open PySem PySem.Spec PyProof.Rows L2 FL
/-! ### targets that take objects -/
section
end
/-! ### for -/
section
end
end VL
/-! VL: a comprehension that uses up a list of its own. -/
namespace VL
open PySem PySem.Spec PyProof.Rows L2 FL
section
end
section
end
end VL
/-! VL: stepping rules for lists that are used up. -/
namespace VL
open PySem PySem.Spec PyProof.Rows L2 FL
section
end
end VL
/-! VL: try: .. except C: .. without a name. -/
namespace VL
open PySem PySem.Spec PyProof.Rows L2 FL
section
end
section
end
end VL
/-! VL: g(t[k], ..), where t owns a tuple and g changes its part k. -/
namespace VL
open PySem PySem.Spec PyProof.Rows L2 FL
section
end
section
end
end VL
/-! VL: for x in t[k:], where t owns a tuple: its parts are used up. -/
namespace VL
open PySem PySem.Spec PyProof.Rows L2 FL
section
end
section
end
section
end
end VL
/-! VL: x = t[k]; x[j] = c; x.append(d), where t owns a list whose item k is a list; c, d are numbers. -/
namespace VL
open PySem PySem.Spec PyProof.Rows L2 FL
section
end
section
end
end VL
/-! VL: a, b = e where e gives a tuple of objects; t[k] of an owned tuple as an object; for x in t over an owned tuple that keeps its parts. -/
namespace VL
open PySem PySem.Spec PyProof.Rows L2 FL
section
end
end VL
/-! VL: for x in t over an owned tuple, which keeps its parts: in the body x shows a part, t shows nothing. -/
namespace VL
open PySem PySem.Spec PyProof.Rows L2 FL
section
end
section
end
end VL
/-! VL: calls with keywords of defs that may raise. -/
namespace L2
open PySem PySem.Spec PyProof.Rows
section
end
end L2
namespace VL
open PySem PySem.Spec PyProof.Rows L2 FL
section
end
end VL
/-! VL: a place in a part of an owned tuple (t[0].append(x)). -/
namespace VL
open PySem PySem.Spec PyProof.Rows L2 FL
section
end
section
end
end VL
/-! VL: x = t[e] and the rest of the suite, t an owned tuple: in the rest x shows the part, t shows nothing. -/
namespace VL
open PySem PySem.Spec PyProof.Rows L2 FL
section
end
section
end
end VL
/-! VL: an instance made of arguments that change something (draws). -/
namespace VL
open PySem PySem.Spec PyProof.Rows L2 FL
section
end
section
end
end VL
/-! VL: a text in a tuple of texts. -/
namespace VL
open PySem PySem.Spec PyProof.Rows L2 FL
section
end
end VL
/-! VL: `if c: xs.append((y, e))` and `z = ez` behind it, where y's object goes into xs and ez may still look at it; list(xs) of a slot's own list whose items stay objects; sorted of such a list. -/
namespace VL
open PySem PySem.Spec PyProof.Rows L2 FL
section
end
/-! ### list(xs), xs a slot's own list: the items stay objects -/
section
/-! ### sorted of a new list, whose items stay objects, of an expression that changes -/
end
section
end
end VL
/-! VL: `in` of a list or of a tuple of ints. -/
namespace VL
open PySem PySem.Spec PyProof.Rows L2 FL
end VL
/-! VL: room for `in` of mixed sequences; list(a list or a tuple) where an exception is handled. -/
namespace VL
open PySem PySem.Spec PyProof.Rows L2 FL
end VL
/-! VL: repr of data. A list's repr looks at what is being shown already: the defs that call it want a stack without such calls (FnG, OkG). -/
namespace VL
open PySem PySem.Spec PyProof.Rows L2 FL
/-! ### the machine -/
/-! ### defs that are called where nothing is being shown -/
section
end
section
end
section
end
end VL
namespace VL
open PySem PySem.Spec PyProof.Rows L2 FL
/-! ### reckoning: what fits -/
inductive RpD : Nat → Nat → D → Prop
  | non : RpD 0 4 .non
  | bl {b : Bool} : RpD 0 5 (.bl b)
  | int {i : Int} : i.natAbs.log2 < 100 → RpD 0 103 (.int i)
  | lst {k B : Nat} {ds : List D} : (∀ d ∈ ds, RpD k B d) → RpD (k + 1) (3 + ds.length * (B + 2)) (.lst ds)
  | tup {k B : Nat} {ds : List D} : (∀ d ∈ ds, RpD k B d) → RpD (k + 1) (3 + ds.length * (B + 2)) (.tup ds)
  | up {k B k' B' : Nat} {d : D} : RpD k B d → k ≤ k' → B ≤ B' → RpD k' B' d
theorem RpD.i {i : Int} (h : -1000000000000000000000000000000 ≤ i) (h' : i ≤ 1000000000000000000000000000000) : RpD 0 103 (.int i) := .int (by
  have : i.natAbs < 2 ^ 100 := Nat.lt_of_le_of_lt (show i.natAbs ≤ 1000000000000000000000000000000 by omega) (by decide)
  rcases Nat.eq_zero_or_pos i.natAbs with h | h
  · rw [h]; decide
  · exact (Nat.log2_lt (by omega)).mpr this)
end VL
/-! VL: the law's end where the law's own def keeps its promise only on a stack that shows nothing (OkG). -/
namespace VL
open PySem PySem.Spec PyProof.Rows L2 FL
section
end
end VL
/-! VL: for y in t[k], t an owned tuple whose part k is a list, whose items the body changes: the item is lent to the name's slot for each turn. -/
namespace VL
open PySem PySem.Spec PyProof.Rows L2 FL
section
end
end VL
/-! VL: reckoning of cForMvT. -/
namespace VL
open PySem PySem.Spec PyProof.Rows L2 FL
section
end
/-! ### a place's list gets a new object -/
section
end
section
end
end VL
/-! VL: x.append(y) and the rest of the suite, y an owned object: in the rest y shows the new item, x shows nothing. -/
namespace VL
open PySem PySem.Spec PyProof.Rows L2 FL
section
end
section
end
end VL
/-! Closed tables: plain mathematics. -/
namespace Fw
abbrev Arc := Nat × Nat × Int
section
end
/-! ### rules -/
abbrev Rule := Nat × Nat × Int × Int
/-! ### the flood -/
abbrev Fl := Nat → Bool
def mark (f : Fl) (r : Rule) : Fl := if f r.1 || f r.2.1 then fun k => f k || decide (k = r.1) || decide (k = r.2.1) else f
end Fw
/-! Tables that are closed in place, and floods as lists: plain mathematics. -/
namespace Fw
section
end
/-! ### floods -/
def joinE (L : List Nat) (a b : Nat) : List Nat := if a ∈ L ∧ b ∉ L then L ++ [b] else L
def joinR (L : List Nat) (r : Rule) : List Nat := joinE (joinE L r.1 r.2.1) r.2.1 r.1
/-- the list holds what is marked -/
structure FlL (n : Nat) (f : Fl) (L : List Nat) : Prop where
  nd : L.Nodup
  lt : ∀ k ∈ L, k < n
  mem : ∀ k, k ∈ L ↔ f k = true
theorem FlL.E {n : Nat} {f : Fl} {L : List Nat} (h : FlL n f L) {a b : Nat} (hb : b < n) : FlL n (fun k => f k || (f a && decide (k = b))) (joinE L a b) := by
  unfold joinE
  split
  · rename_i c
    have fa := (h.mem a).mp c.1
    refine ⟨?_, fun k hk => ?_, fun k => ?_⟩
    · rw [List.nodup_append]
      exact ⟨h.nd, by simp, fun x hx y hy => by rw [List.mem_singleton.mp hy]; exact fun e => c.2 (e ▸ hx)⟩
    · rcases List.mem_append.mp hk with q | q
      · exact h.lt k q
      · rw [List.mem_singleton.mp q]; exact hb
    · rw [List.mem_append, h.mem k, fa]
      simp
  · rename_i c
    refine ⟨h.nd, h.lt, fun k => ?_⟩
    rw [h.mem k]
    constructor
    · intro e; simp [e]
    · intro e
      rcases Bool.or_eq_true _ _ ▸ e with q | q
      · exact q
      · rw [Bool.and_eq_true, decide_eq_true_eq] at q
        obtain ⟨q1, q2⟩ := q
        have := (h.mem a).mpr q1
        have hbL : b ∈ L := Classical.byContradiction fun z => c ⟨this, z⟩
        rw [q2]; exact (h.mem b).mp hbL
theorem FlL.R {n : Nat} {f : Fl} {L : List Nat} (h : FlL n f L) {r : Rule} (h1 : r.1 < n) (h2 : r.2.1 < n) : FlL n (mark f r) (joinR L r) := by
  have g := (h.E (a := r.1) h2).E (a := r.2.1) h1
  refine ⟨g.nd, g.lt, fun k => (g.mem k).trans ?_⟩
  unfold mark
  by_cases c : k = r.1 <;> by_cases d : k = r.2.1 <;> cases e1 : f r.1 <;> cases e2 : f r.2.1 <;> (try subst c) <;> (try simp_all)
theorem FlL.len {n : Nat} {f : Fl} {L : List Nat} (h : FlL n f L) : decide (L.length = n) = (List.range n).all f := by
  have p : L.Perm ((List.range n).filter f) := (List.perm_ext_iff_of_nodup h.nd (List.nodup_range.filter _)).mpr fun a => by
    rw [List.mem_filter, List.mem_range]
    exact ⟨fun q => ⟨h.lt a q, (h.mem a).mp q⟩, fun q => (h.mem a).mpr q.2⟩
  have e : (L.length = n) ↔ ∀ a ∈ List.range n, f a = true := by
    rw [← List.length_filter_eq_length_iff, List.length_range, p.length_eq]
  rw [Bool.eq_iff_iff, decide_eq_true_eq, e, List.all_eq_true]
end Fw
/-! Closed tables of whole numbers that are made tighter: plain mathematics. -/
namespace Fw
section
end
end Fw
/-! lots: sorted rows without repeats -/
namespace Lw
open PySem PySem.Spec PyProof.Rows L2 FL VL
abbrev LL := List (List Int)
end Lw
/-! sets as masks; least sets, hitting sets -/
namespace Lw
open PySem PySem.Spec PyProof.Rows L2 FL VL
/-! ### masks -/
def Asc (r : List Int) : Prop := r.Pairwise (· < ·) ∧ ∀ x ∈ r, 0 ≤ x
/-! ### the least ones of an ascending list of masks -/
/-! ### rows -/
end Lw
/-! what the law reckons: least rows, subsets, leaving out -/
namespace Lw
open PySem PySem.Spec PyProof.Rows L2 FL VL
theorem nd_len {α : Type} [DecidableEq α] : ∀ {L R : List α}, L.Nodup → (∀ x ∈ L, x ∈ R) → L.length ≤ R.length
  | [], R, _, _ => Nat.zero_le _
  | a :: L, R, hn, h => by
    have hn := List.nodup_cons.mp hn
    have ha := h a List.mem_cons_self
    have := nd_len (L := L) (R := R.erase a) hn.2 fun x hx => (List.mem_erase_of_ne fun (e : x = a) => hn.1 (e ▸ hx)).mpr (h x (List.mem_cons_of_mem _ hx))
    rw [List.length_erase_of_mem ha] at this
    have hp := List.length_pos_of_mem ha
    rw [List.length_cons]
    omega
theorem Asc.nd {r : List Int} (h : Asc r) : r.Nodup := h.1.imp fun h => by omega
/-- the law's own least rows -/
def insB (o g : List Int) : Bool := decide (∀ x ∈ o, x ∈ g)
end Lw
/-! doubts: plans, objects, what they allow -/
namespace Lw
open PySem PySem.Spec PyProof.Rows L2 FL VL
inductive Pl where
  | most (n : Int)
  | within (n : Int)
  | lots (ws : LL)
  | both (a b : Pl)
  | either (a b : Pl)
def sumOf (lot ms : List Int) : Int := (lot.map fun i => ms.getD i.toNat 0).sum
def alw : Pl → List Int → List Int → Bool
  | .most n, lot, _ => decide ((lot.length : Int) ≤ n)
  | .within n, lot, ms => decide (sumOf lot ms ≤ n)
  | .lots ws, lot, _ => (ws.any fun g => insB lot g) || decide ((lot.length : Int) = 0)
  | .both a b, lot, ms => alw a lot ms && alw b lot ms
  | .either a b, lot, ms => alw a lot ms || alw b lot ms
end Lw
/-! largest lots -/
namespace Lw
open PySem PySem.Spec PyProof.Rows L2 FL VL
/-! ### what is allowed depends on the set alone, and parts of it are allowed -/
/-! ### the greatest ones of a descending list of masks -/
/-! ### largest lots -/
/-! ### by the law -/
end Lw
namespace Lw
open PySem PySem.Spec PyProof.Rows L2 FL VL
end Lw
namespace Lw.Fr
open PySem PySem.Spec PyProof.Rows L2 FL VL Fw
/-! ### rules -/
/-! ### the flood -/
end Lw.Fr
namespace Lw.Fr
open PySem PySem.Spec PyProof.Rows L2 FL VL Fw
/-! ### arcs with their links -/
/-! ### one pass -/
end Lw.Fr
namespace Lw.Fr
open PySem PySem.Spec PyProof.Rows L2 FL VL Fw
/-! ### the frame -/
end Lw.Fr
namespace Lw.Fr
open PySem PySem.Spec PyProof.Rows L2 FL VL Fw
/-! ### what is asked of a frame -/
end Lw.Fr
namespace Lw.Fr
open PySem PySem.Spec PyProof.Rows L2 FL VL Fw
end Lw.Fr
namespace Lw.Fr
open PySem PySem.Spec PyProof.Rows L2 FL VL Fw
end Lw.Fr
namespace Lw.Fr
open PySem PySem.Spec PyProof.Rows L2 FL VL Fw
/-- what a teller tells -/
structure Tell where
  a : Int
  b : Int
  lo : Option Int
  hi : Option Int
  w : Int
def optD : Option Int → D
  | none => .non
  | some i => .int i
def Tell.d (t : Tell) : D := .tup [.int t.a, .int t.b, optD t.lo, optD t.hi, .int t.w]
def Tell.fs (t : Tell) : List (Str × D) := [("first", .int t.a), ("second", .int t.b), ("low", optD t.lo), ("high", optD t.hi), ("weight", .int t.w)]
def Tell.c (t : Tell) : D := .obj "Claim" t.fs
def Tell.o (t : Tell) : O := .i "Claim" (t.fs.map fun q => (q.1, .d q.2))
structure Tell.Ok (t : Tell) : Prop where
  a0 : 0 ≤ t.a
  a1 : t.a ≤ 15
  b0 : 0 ≤ t.b
  b1 : t.b ≤ 15
  bd : ∀ l h, t.lo = some l → t.hi = some h → l ≤ h
  w0 : 1 ≤ t.w
  w1 : t.w ≤ 99
section
end
/-! ### tells about nodes -/
structure TN where
  f : Nat
  s : Nat
  lo : Option Int
  hi : Option Int
  w : Int
def TN.t (t : TN) : Tell := ⟨(t.f : Int), (t.s : Int), t.lo, t.hi, t.w⟩
structure TN.Ok (t : TN) : Prop where
  f : t.f ≤ 15
  s : t.s ≤ 15
  bd : ∀ l h, t.lo = some l → t.hi = some h → l ≤ h
  w0 : 1 ≤ t.w
  w1 : t.w ≤ 99
theorem TN.Ok.t {t : TN} (h : t.Ok) : t.t.Ok := ⟨by show (0 : Int) ≤ (t.f : Int); omega, by have := h.f; show ((t.f : Nat) : Int) ≤ 15; omega, by show (0 : Int) ≤ (t.s : Int); omega, by have := h.s; show ((t.s : Nat) : Int) ≤ 15; omega, h.bd, h.w0, h.w1⟩
/-! ### the arcs of claims -/
end Lw.Fr
namespace Lw
open PySem PySem.Spec PyProof.Rows L2 FL VL
/-! ### masks -/
/-! ### a listed lot -/
section
end
end Lw
namespace Lw
open PySem PySem.Spec PyProof.Rows L2 FL VL
/-! ### objects -/
/-! ### what a plan allows, by the law -/
end Lw
namespace Lw
open PySem PySem.Spec PyProof.Rows L2 FL VL
end Lw
namespace Lw
open PySem PySem.Spec PyProof.Rows L2 FL VL
section
end

section
end
/-! ### members -/
/-! ### drawn sets -/
def nums (n : Nat) : List Int := (List.range n).map fun k : Nat => (k : Int)
theorem mem_nums {n : Nat} {x : Int} : x ∈ nums n ↔ 0 ≤ x ∧ x < (n : Int) := by
  unfold nums
  rw [List.mem_map]
  constructor
  · rintro ⟨k, hk, rfl⟩
    have := List.mem_range.mp hk
    omega
  · rintro ⟨h0, h1⟩
    exact ⟨x.toNat, List.mem_range.mpr (by omega), by omega⟩
theorem nums_len (n : Nat) : (nums n).length = n := by unfold nums; rw [List.length_map, List.length_range]
end Lw
namespace Lw
open PySem PySem.Spec PyProof.Rows L2 FL VL
/-! ### a rich plan -/
/-! ### one more number in each lot -/
end Lw
namespace Lw
open PySem PySem.Spec PyProof.Rows L2 FL VL
/-! ### adding greedily -/
structure LedP (p : Pl) (ms A L : List Int) : Prop where
  na : A.Nodup
  ra : ∀ x ∈ A, 0 ≤ x ∧ x < (ms.length : Int)
  nl : L.Nodup
  rl : ∀ x ∈ L, 0 ≤ x ∧ x < (ms.length : Int)
  dj : ∀ x ∈ A, x ∉ L
  al : alw p L ms = true
  rest : ∀ x, 0 ≤ x → x < (ms.length : Int) → x ∈ A ∨ x ∈ L ∨ alw p (L ++ [x]) ms = false
theorem LedP.len {p : Pl} {ms A L : List Int} (h : LedP p ms A L) : L.length ≤ ms.length := by
  have := nd_len (L := L) (R := nums ms.length) h.nl fun x hx => mem_nums.mpr (h.rl x hx)
  rwa [nums_len] at this
end Lw
namespace Lw
open PySem PySem.Spec PyProof.Rows L2 FL VL
end Lw
/-! flows, plain -/
namespace Fg
/-! ### sums -/
/-! ### arcs and flows -/
abbrev Arc := Nat × Nat × Int
def In (n : Nat) (E : List Arc) : Prop := ∀ a ∈ E, a.1 < n ∧ a.2.1 < n ∧ 0 ≤ a.2.2
def arc (E : List Arc) (i : Nat) : Arc := (E[i]?).getD (0, 0, 0)
theorem arc_at {E : List Arc} {i : Nat} (h : i < E.length) : E[i]? = some (arc E i) := by
  unfold arc
  rw [List.getElem?_eq_getElem h]
  rfl
theorem In.at {n : Nat} {E : List Arc} (h : In n E) {i : Nat} (hi : i < E.length) : (arc E i).1 < n ∧ (arc E i).2.1 < n ∧ 0 ≤ (arc E i).2.2 := h _ (List.mem_of_getElem? (arc_at hi))
def fl (f : List Int) (i : Nat) : Int := (f[i]?).getD 0
section
variable {n s t : Nat} {E : List Arc} {f : List Int}
def room (E : List Arc) (f : List Int) (i : Nat) (x : Int) : Int := if x = 1 then (arc E i).2.2 - fl f i else fl f i
/-- a step from b to x over arc i -/
def Stp (E : List Arc) (b i x : Nat) (e : Int) : Prop := i < E.length ∧ ((e = 1 ∧ (arc E i).1 = b ∧ (arc E i).2.1 = x) ∨ (e = -1 ∧ (arc E i).2.1 = b ∧ (arc E i).1 = x))
theorem Stp.lt {b i x : Nat} {e : Int} (hE : In n E) (h : Stp E b i x e) : x < n := by
  have := hE.at h.1
  rcases h.2 with ⟨_, _, h3⟩ | ⟨_, _, h3⟩
  · rw [← h3]; exact this.2.1
  · rw [← h3]; exact this.1
/-! ### the nodes that are reached -/
abbrev Pt := Nat → Option (Nat × Int × Int)
structure Bfs (n : Nat) (E : List Arc) (f : List Int) (s : Nat) (P : Pt) (F : List Nat) (a : Nat) : Prop where
  nd : F.Nodup
  lt : ∀ x ∈ F, x < n
  le : a ≤ F.length
  mem : ∀ x, x < n → (x ∈ F ↔ (P x).isSome = true)
  s0 : F[0]? = some s
  ps : P s = some (s, -1, 0)
  back : ∀ j x, 1 ≤ j → F[j]? = some x → ∃ (b i k : Nat) (e : Int), P x = some (b, (i : Int), e) ∧ k < j ∧ F[k]? = some b ∧ Stp E b i x e ∧ 0 < room E f i e
  closed : ∀ k, k < a → ∀ b, F[k]? = some b → ∀ i y e, Stp E b i y e → 0 < room E f i e → (P y).isSome = true
theorem Bfs.len {P : Pt} {F : List Nat} {a : Nat} (h : Bfs n E f s P F a) : F.length ≤ n := by
  have := Lw.nd_len h.nd (R := List.range n) fun x hx => List.mem_range.mpr (h.lt x hx)
  rwa [List.length_range] at this
/-! ### the way back -/
/-! ### more of the flow -/
/-! ### the side -/
end
end Fg
namespace Lw.Fo
open PySem PySem.Spec PyProof.Rows L2 FL VL Fg
/-! ### flows as data -/
end Lw.Fo
namespace Lw.Fo
open PySem PySem.Spec PyProof.Rows L2 FL VL Fg
end Lw.Fo
namespace Lw.Fo
open PySem PySem.Spec PyProof.Rows L2 FL VL Fg
end Lw.Fo
namespace Lw.Fo
open PySem PySem.Spec PyProof.Rows L2 FL VL Fg
end Lw.Fo
namespace Lw.Fo
open PySem PySem.Spec PyProof.Rows L2 FL VL Fg
section
end
end Lw.Fo
namespace Lw.Fo
open PySem PySem.Spec PyProof.Rows L2 FL VL Fg
section
end
end Lw.Fo
namespace Lw.Fo
open PySem PySem.Spec PyProof.Rows L2 FL VL Fg
section
end
section
end
end Lw.Fo
namespace Lw.Fo
open PySem PySem.Spec PyProof.Rows L2 FL VL Fg
section
end
end Lw.Fo
namespace Lw.Fo
open PySem PySem.Spec PyProof.Rows L2 FL VL Fg
section
end
end Lw.Fo
namespace Lw.Fo
open PySem PySem.Spec PyProof.Rows L2 FL VL Fg
section
end
end Lw.Fo
namespace Lw.Fo
open PySem PySem.Spec PyProof.Rows L2 FL VL Fg
end Lw.Fo
namespace Lw
open PySem PySem.Spec PyProof.Rows L2 FL VL
def top (i : Nat) : Stmt := PySem.Challenge.pw_counthall_k41_greatest_flow.main.body.getD i (.Pass ⟨0, 0, 0, 0⟩)
end Lw
namespace Lw
open PySem PySem.Spec PyProof.Rows L2 FL VL
def dd_steps_from : He.DefD := ⟨("steps_from", none), "steps_from", "steps_from", defArgs (top 1), defBody (top 1), defScope (top 1), [], []⟩
def dd_room_left : He.DefD := ⟨("room_left", none), "room_left", "room_left", defArgs (top 2), defBody (top 2), defScope (top 2), [], []⟩
def dd_way_back : He.DefD := ⟨("way_back", none), "way_back", "way_back", defArgs (top 4), defBody (top 4), defScope (top 4), [], []⟩
def dd_net_out : He.DefD := ⟨("net_out", none), "net_out", "net_out", defArgs (top 5), defBody (top 5), defScope (top 5), [], []⟩
def dd_l_source : He.DefD := ⟨("_law_source", none), "_law_source", "_law_source", defArgs (top 8), defBody (top 8), defScope (top 8), [], []⟩
def dd_l_draw : He.DefD := ⟨("_law_draw", none), "_law_draw", "_law_draw", defArgs (top 9), defBody (top 9), defScope (top 9), [], []⟩
def dd_l_whole : He.DefD := ⟨("_law_whole", none), "_law_whole", "_law_whole", defArgs (top 10), defBody (top 10), defScope (top 10), [], []⟩
def dd_l_handed : He.DefD := ⟨("_law_handed", none), "_law_handed", "_law_handed", defArgs (top 18), defBody (top 18), defScope (top 18), [], []⟩
def dd_l_ascends : He.DefD := ⟨("_law_ascends", none), "_law_ascends", "_law_ascends", defArgs (top 19), defBody (top 19), defScope (top 19), [], []⟩
def dd_l_flow : He.DefD := ⟨("_law_flow", none), "_law_flow", "_law_flow", defArgs (top 20), defBody (top 20), defScope (top 20), [], []⟩
def dd_reached_from : He.DefD := ⟨("reached_from", none), "reached_from", "reached_from", defArgs (top 3), defBody (top 3), defScope (top 3), [], []⟩
def dd_l_wholes : He.DefD := ⟨("_law_wholes", none), "_law_wholes", "_law_wholes", defArgs (top 11), defBody (top 11), defScope (top 11), [], []⟩
def dd_l_capacity : He.DefD := ⟨("_law_capacity", none), "_law_capacity", "_law_capacity", defArgs (top 12), defBody (top 12), defScope (top 12), [], []⟩
def dd_l_other : He.DefD := ⟨("_law_other", none), "_law_other", "_law_other", defArgs (top 13), defBody (top 13), defScope (top 13), [], []⟩
def dd_greatest_flow : He.DefD := ⟨("greatest_flow", none), "greatest_flow", "greatest_flow", defArgs (top 6), defBody (top 6), defScope (top 6), [], []⟩
def dd_l_exchange : He.DefD := ⟨("_law_exchange", none), "_law_exchange", "_law_exchange", defArgs (top 14), defBody (top 14), defScope (top 14), [], []⟩
def dd_l_ways : He.DefD := ⟨("_law_ways", none), "_law_ways", "_law_ways", defArgs (top 15), defBody (top 15), defScope (top 15), [], []⟩
def dd_l_more : He.DefD := ⟨("_law_more", none), "_law_more", "_law_more", defArgs (top 16), defBody (top 16), defScope (top 16), [], []⟩
def dd_l_shows : He.DefD := ⟨("_law_shows", none), "_law_shows", "_law_shows", defArgs (top 21), defBody (top 21), defScope (top 21), [], []⟩
def dd_l_net : He.DefD := ⟨("_law_net", none), "_law_net", "_law_net", defArgs (top 17), defBody (top 17), defScope (top 17), [], []⟩
def dd_law : He.DefD := ⟨("law", none), "law", "law", defArgs (top 22), defBody (top 22), defScope (top 22), [], []⟩
def fnL_0 : List He.DefD := [dd_steps_from, dd_room_left, dd_way_back, dd_net_out, dd_l_source, dd_l_draw, dd_l_whole, dd_l_handed, dd_l_ascends, dd_l_flow, dd_reached_from, dd_l_wholes, dd_l_capacity, dd_l_other, dd_greatest_flow, dd_l_exchange, dd_l_ways, dd_l_more, dd_l_shows, dd_l_net, dd_law]
def fnL : List He.DefD := fnL_0
def snL : List (Str × Sx) := []
def faL_0 : List He.Fa := [.glo "steps_from", .glo "room_left", .glo "way_back", .glo "net_out", .glo "_law_source", .glo "_law_draw", .glo "_law_whole", .glo "_law_handed", .glo "_law_ascends", .glo "_law_flow", .glo "reached_from", .glo "_law_wholes", .glo "_law_capacity", .glo "_law_other", .glo "greatest_flow", .glo "_law_exchange", .glo "_law_ways", .glo "_law_more", .glo "_law_shows", .glo "_law_net", .glo "law", .free "abs", .free "bool", .free "int", .free "isinstance", .free "len", .free "list", .free "max", .free "min", .free "range", .free "repr", .free "tuple"]
def faL : List He.Fa := faL_0
def lo_0 : List Str := ["steps_from", "room_left", "reached_from", "way_back", "net_out", "greatest_flow", "_law_source", "_law_draw", "_law_whole", "_law_wholes", "_law_capacity", "_law_other", "_law_exchange", "_law_ways", "_law_more", "_law_net", "_law_handed", "_law_ascends", "_law_flow", "_law_shows"]
def loose : List Str := lo_0
def exB (K : Frg) : Bool := true
abbrev RR : PySem.W.OpenRow := PySem.W.OpenLaw.row PySem.Challenge.rw_counthall_k41_greatest_flow
abbrev hk : PySem.W.Hook := hookW 4 faL fnL snL exB
def obs (s : PySem.W.SharedT) : AlW := obsW 4 faL fnL snL exB (HandSHeadRun.getT s)
theorem mapP {α β γ : Type} {o : Option α} {f : α → β} {g : α → γ} {b : β} {c : γ} (h1 : o.map f = some b) (h2 : o.map g = some c) : o.map (fun s => (f s, g s)) = some (b, c) := by
  cases o with
  | none => cases h1
  | some x => rw [Option.map_some] at *; rw [Option.some.inj h1, Option.some.inj h2]
theorem mapB {α : Type} {o : Option α} {f g : α → Bool} (h1 : o.map f = some true) (h2 : o.map g = some true) : o.map (fun s => f s && g s) = some true := by
  cases o with
  | none => cases h1
  | some x => rw [Option.map_some] at *; rw [Option.some.inj h1, Option.some.inj h2]; rfl
theorem mapE {α β : Type} {o : Option α} {f g : α → β} {b : β} (h : o.map f = some b) (e : ∀ s, g s = f s) : o.map g = some b := by
  rw [show g = f from funext e]; exact h
open PySem PySem.W PySem.Calls PyProof.Rows HandSHeadRun in
theorem run1 (w : World) : ∀ os : OsState, (HandSHeadRun.endF (HandSHeadRun.stepQ (HandSHeadRun.denQ HandSHeadRun.tabQ) RR.prog w) 9000 RR.prog w os).map (fun s => looksF RR.prog (boot_heap w.params) s.abs) = some true := by
  intro os
  kernel_rfl
open PySem PySem.W PySem.Calls PyProof.Rows HandSHeadRun in
theorem run2 (w : World) : ∀ os : OsState, (HandSHeadRun.endF (HandSHeadRun.stepQ (HandSHeadRun.denQ HandSHeadRun.tabQ) RR.prog w) 9000 RR.prog w os).map (fun s => seenQ (PySem.W.view RR.prog [22]) loose (importedModules RR.prog.main.body) (fun s => xlAt (PySem.W.view RR.prog [22]) [] s && recOk RR.toRowW.records s) s.abs) = some (openGood (PySem.W.view RR.prog [22]) loose) := by
  intro os
  kernel_rfl
open PySem PySem.W PySem.Calls PyProof.Rows HandSHeadRun in
theorem runA0 (w : World) : ∀ os : OsState, (HandSHeadRun.endF (HandSHeadRun.stepQ (HandSHeadRun.denQ HandSHeadRun.tabQ) RR.prog w) 9000 RR.prog w os).map (fun s => faL_0.all fun f => f.ok (He.frG (HandSHeadRun.getT s) (asW 4 (HandSHeadRun.getT s)))) = some true := by
  intro os
  kernel_rfl
open PySem PySem.W PySem.Calls PyProof.Rows HandSHeadRun in
theorem runB0 (w : World) : ∀ os : OsState, (HandSHeadRun.endF (HandSHeadRun.stepQ (HandSHeadRun.denQ HandSHeadRun.tabQ) RR.prog w) 9000 RR.prog w os).map (fun s => (fnL_0.all fun d => d.ok (He.frG (HandSHeadRun.getT s) (asW 4 (HandSHeadRun.getT s))), fnL_0.map fun d => He.fnW (He.frG (HandSHeadRun.getT s) (asW 4 (HandSHeadRun.getT s))) d.at_)) = some (true, fnL_0.map He.DefD.val) := by
  intro os
  kernel_rfl
open PySem PySem.W PySem.Calls PyProof.Rows HandSHeadRun in
theorem runX (w : World) : ∀ os : OsState, (HandSHeadRun.endF (HandSHeadRun.stepQ (HandSHeadRun.denQ HandSHeadRun.tabQ) RR.prog w) 9000 RR.prog w os).map (fun s => exB (He.frG (HandSHeadRun.getT s) (asW 4 (HandSHeadRun.getT s)))) = some true := by
  intro os
  kernel_rfl
open PySem PySem.W PySem.Calls PyProof.Rows HandSHeadRun in
theorem runC0 (w : World) : ∀ os : OsState, (HandSHeadRun.endF (HandSHeadRun.stepQ (HandSHeadRun.denQ HandSHeadRun.tabQ) RR.prog w) 9000 RR.prog w os).map (fun s => fnL_0.all fun d => d.ok (He.frG (HandSHeadRun.getT s) (asW 4 (HandSHeadRun.getT s)))) = some true := by
  intro os
  have h := runB0 w os
  revert h
  cases (HandSHeadRun.endF (HandSHeadRun.stepQ (HandSHeadRun.denQ HandSHeadRun.tabQ) RR.prog w) 9000 RR.prog w os) with
  | none => exact fun h => nomatch h
  | some s => exact fun h => congrArg some (congrArg Prod.fst (Option.some.inj h))
open PySem PySem.W PySem.Calls PyProof.Rows HandSHeadRun in
theorem runD0 (w : World) : ∀ os : OsState, (HandSHeadRun.endF (HandSHeadRun.stepQ (HandSHeadRun.denQ HandSHeadRun.tabQ) RR.prog w) 9000 RR.prog w os).map (fun s => fnL_0.map fun d => He.fnW (He.frG (HandSHeadRun.getT s) (asW 4 (HandSHeadRun.getT s))) d.at_) = some (fnL_0.map He.DefD.val) := by
  intro os
  have h := runB0 w os
  revert h
  cases (HandSHeadRun.endF (HandSHeadRun.stepQ (HandSHeadRun.denQ HandSHeadRun.tabQ) RR.prog w) 9000 RR.prog w os) with
  | none => exact fun h => nomatch h
  | some s => exact fun h => congrArg some (congrArg Prod.snd (Option.some.inj h))
open PySem PySem.W PySem.Calls PyProof.Rows HandSHeadRun in
theorem runA (w : World) : ∀ os : OsState, (HandSHeadRun.endF (HandSHeadRun.stepQ (HandSHeadRun.denQ HandSHeadRun.tabQ) RR.prog w) 9000 RR.prog w os).map (fun s => faL.all fun f => f.ok (He.frG (HandSHeadRun.getT s) (asW 4 (HandSHeadRun.getT s)))) = some true := by
  intro os
  refine mapE (runA0 w os) fun s => ?_
  unfold faL
  simp only [List.all_append]
open PySem PySem.W PySem.Calls PyProof.Rows HandSHeadRun in
theorem runC (w : World) : ∀ os : OsState, (HandSHeadRun.endF (HandSHeadRun.stepQ (HandSHeadRun.denQ HandSHeadRun.tabQ) RR.prog w) 9000 RR.prog w os).map (fun s => fnL.all fun d => d.ok (He.frG (HandSHeadRun.getT s) (asW 4 (HandSHeadRun.getT s)))) = some true := by
  intro os
  refine mapE (runC0 w os) fun s => ?_
  unfold fnL
  simp only [List.all_append]
open PySem PySem.W PySem.Calls PyProof.Rows HandSHeadRun in
theorem runD (w : World) : ∀ os : OsState, (HandSHeadRun.endF (HandSHeadRun.stepQ (HandSHeadRun.denQ HandSHeadRun.tabQ) RR.prog w) 9000 RR.prog w os).map (fun s => fnL.map fun d => He.fnW (He.frG (HandSHeadRun.getT s) (asW 4 (HandSHeadRun.getT s))) d.at_) = some (fnL.map He.DefD.val) := by
  intro os
  have e : fnL.map He.DefD.val = fnL_0.map He.DefD.val := by
    unfold fnL
    simp only [List.map_append]
  rw [e]
  refine mapE (runD0 w os) fun s => ?_
  unfold fnL
  simp only [List.map_append]
open PySem PySem.W PySem.Calls PyProof.Rows HandSHeadRun in
theorem runS (w : World) : ∀ os : OsState, (HandSHeadRun.endF (HandSHeadRun.stepQ (HandSHeadRun.denQ HandSHeadRun.tabQ) RR.prog w) 9000 RR.prog w os).map (fun s => snL.map fun q => fnS (He.frG (HandSHeadRun.getT s) (asW 4 (HandSHeadRun.getT s))) q.1) = some (snL.map fun q => q.2.val) := by
  intro os
  kernel_rfl
theorem run (w : World) : HandSHeadRun.RunEq RR (PySem.W.view RR.prog [22]) hk obs 9000 loose w := by
  intro os
  exact mapP (run1 w os) (mapP (run2 w os) (mapP (mapP (mapP (mapB (runA w os) (runC w os)) (runD w os)) (runX w os)) (runS w os)))
end Lw
open PySem PySem.W PySem.Calls PyProof.Rows
end HoistA
set_option Elab.async false
set_option linter.all false
set_option autoImplicit false
set_option maxRecDepth 100000
set_option maxHeartbeats 4000000
/-! FL: plain data (D), values with local objects (T), the two worlds' tie (RelS, SlotsOk, Step). -/
namespace FL
open PySem PySem.Spec PyProof.Rows L2
section
variable {K : Frg} {F F' F'' : Hp} {ad ad' ad'' : List Addr} {S S' : Cs} {H H' H'' : Hp} {v : V}
theorem Step.refl : Step F ad H F ad H := ⟨fun _ _ h => h, fun _ _ h => .inl h, ⟨[], by simp, fun _ h => by simp at h⟩, fun _ _ h _ => h, fun _ h => h⟩
theorem Reps.get : ∀ {vs : List V} {ds : List D} {i : Nat} {d : D}, Reps K F vs ds → ds[i]? = some d → ∃ v, vs[i]? = some v ∧ Rep K F v d
  | _, _, _, _, .nil, e => by simp at e
  | _, _, 0, _, .cons q _, e => by simp at e; subst e; exact ⟨_, rfl, q⟩
  | _, _, i + 1, d, .cons _ r, e => by
    obtain ⟨v, h1, h2⟩ := Reps.get (i := i) (d := d) r (by simpa using e)
    exact ⟨v, by simpa using h1, h2⟩
theorem Paired.get {α β : Type} {R : α → β → Prop} : ∀ {vs : List α} {ds : List β} {i : Nat} {d : β}, Paired R vs ds → ds[i]? = some d → ∃ v, vs[i]? = some v ∧ R v d
  | _, _, _, _, .nil, e => by simp at e
  | _, _, 0, _, .cons q _, e => by simp at e; subst e; exact ⟨_, rfl, q⟩
  | _, _, i + 1, d, .cons _ r, e => by
    obtain ⟨v, h1, h2⟩ := Paired.get (i := i) (d := d) r (by simpa using e)
    exact ⟨v, by simpa using h1, h2⟩
theorem Reps.append : ∀ {vs ws : List V} {ds es : List D}, Reps K F vs ds → Reps K F ws es → Reps K F (vs ++ ws) (ds ++ es)
  | _, _, _, _, .nil, s => s
  | _, _, _, _, .cons r t, s => .cons r (Reps.append t s)
theorem Paired.append {α β : Type} {R : α → β → Prop} : ∀ {vs ws : List α} {ds es : List β}, Paired R vs ds → Paired R ws es → Paired R (vs ++ ws) (ds ++ es)
  | _, _, _, _, .nil, s => s
  | _, _, _, _, .cons r t, s => .cons r (Paired.append t s)
theorem Paired.take {α β : Type} {R : α → β → Prop} : ∀ {vs : List α} {ds : List β} (n : Nat), Paired R vs ds → Paired R (vs.take n) (ds.take n)
  | _, _, 0, _ => .nil
  | _, _, _ + 1, .nil => .nil
  | _, _, n + 1, .cons r t => .cons r (Paired.take n t)
theorem Paired.drop {α β : Type} {R : α → β → Prop} : ∀ {vs : List α} {ds : List β} (n : Nat), Paired R vs ds → Paired R (vs.drop n) (ds.drop n)
  | _, _, 0, r => r
  | _, _, _ + 1, .nil => .nil
  | _, _, n + 1, .cons _ t => Paired.drop n t
/-- forget slots -/
def forget (is : List Nat) (σ : Sg) : Sg := is.foldl (fun s i => s.set i none) σ
theorem SlotsOk.forget1 {σ : Sg} {τ : L2.St} (r : SlotsOk K F ad σ τ) (i : Nat) : SlotsOk K F ad (σ.set i none) τ := by
  refine ⟨by simp [r.1], fun j u e => ?_⟩
  rw [List.getElem?_set] at e
  by_cases hij : i = j
  · subst hij
    rw [if_pos rfl] at e
    by_cases hl : i < σ.length
    · rw [if_pos hl] at e; cases e
    · rw [if_neg hl] at e; cases e
  · rw [if_neg hij] at e
    exact r.2 j u e
theorem SlotsOk.forget {τ : L2.St} : ∀ {is : List Nat} {σ : Sg}, SlotsOk K F ad σ τ → SlotsOk K F ad (forget is σ) τ
  | [], _, r => r
  | i :: is, σ, r => SlotsOk.forget (is := is) (r.forget1 i)
theorem RelS.cell (r : RelS K F ad S H) {p : Nat} {c : Cell} (e : S[p]? = some c) : ∃ a, ad[p]? = some a ∧ CellOk K F ad H a c := by
  have hl : p < ad.length := by rw [r.len]; exact (List.getElem?_eq_some_iff.mp e).1
  exact ⟨ad[p], List.getElem?_eq_getElem hl, r.cells p _ c (List.getElem?_eq_getElem hl) e⟩
theorem CellOk.there {a : Addr} {c : Cell} (r : CellOk K F ad H a c) : ∃ o, H a = some o := by
  cases c with
  | lst ts => obtain ⟨_, vs, h, _⟩ := r; exact ⟨_, h⟩
  | ins c fs => obtain ⟨_, dx, fvs, h, _⟩ := r; exact ⟨_, h⟩
  | frz d => exact r.2
theorem RelS.there (r : RelS K F ad S H) {a : Addr} (h : a ∈ ad) : ∃ o, H a = some o := by
  obtain ⟨p, hp, e⟩ := List.getElem_of_mem h
  have hl : p < S.length := by rw [← r.len]; exact hp
  exact (r.cells p a _ (by rw [← e]; exact List.getElem?_eq_getElem hp) (List.getElem?_eq_getElem hl)).there
/-- a new object stands at a: local from now on -/
theorem RelS.new (r : RelS K F ad S H) {a : Addr} {o : HO} (hn : H a = none) {c : Cell} (hc : ∀ l, CellOk K F (ad ++ l) (upd H a o) a c) : RelS K F (ad ++ [a]) (S ++ [c]) (upd H a o) ∧ Step F ad H F (ad ++ [a]) (upd H a o) := by
  have st : Step F ad H F (ad ++ [a]) (upd H a o) := by
    refine ⟨fun _ _ h => h, fun _ _ h => .inl h, ⟨[a], rfl, fun b hb => by rw [List.mem_singleton.mp hb]; exact hn⟩, fun b u h _ => ?_, fun b h => ?_⟩
    · rw [upd_ne (ne_of_none h hn)]; exact h
    · by_cases hb : b = a
      · rw [hb]; exact hn
      · rw [upd_ne hb] at h; exact h
  have na : a ∉ ad := fun h => by
    obtain ⟨u, e⟩ := r.there h
    rw [hn] at e; cases e
  refine ⟨⟨fun b u h => ?_, ?_, by simp [r.len], fun p b c' e1 e2 => ?_⟩, st⟩
  · have h' := r.sub b u h
    rw [upd_ne (ne_of_none h' hn)]; exact h'
  · rw [List.nodup_append]
    exact ⟨r.nd, by simp, fun x hx y hy => by rw [List.mem_singleton.mp hy]; exact fun e => na (e ▸ hx)⟩
  · by_cases hp : p < ad.length
    · rw [List.getElem?_append_left hp] at e1
      rw [List.getElem?_append_left (by rw [← r.len]; exact hp)] at e2
      have q := r.cells p b c' e1 e2
      exact q.step st (fun u e => by rw [upd_ne (ne_of_none e hn)]; exact e) fun h => h
    · rw [List.getElem?_append_right (Nat.le_of_not_lt hp)] at e1
      rw [List.getElem?_append_right (by rw [← r.len]; exact Nat.le_of_not_lt hp), ← r.len] at e2
      have e0 : p - ad.length = 0 := by
        have := (List.getElem?_eq_some_iff.mp e1).1
        simp at this
        omega
      rw [e0] at e1 e2
      simp at e1 e2
      subst e1 e2
      exact hc [a]
/-- a new object stands at a: data from now on -/
theorem RelS.newF (r : RelS K F ad S H) {a : Addr} {o : HO} (hn : H a = none) : RelS K (upd F a o) ad S (upd H a o) ∧ Step F ad H (upd F a o) ad (upd H a o) := by
  have na : a ∉ ad := fun h => by
    obtain ⟨u, e⟩ := r.there h
    rw [hn] at e; cases e
  have fa : F a = none := by
    cases q : F a with
    | none => rfl
    | some u => have := r.sub a u q; rw [hn] at this; cases this
  have st : Step F ad H (upd F a o) ad (upd H a o) := by
    refine ⟨fun b u h => by rw [upd_ne (ne_of_none h fa)]; exact h, fun b u h => ?_, ⟨[], by simp, fun _ h => by simp at h⟩, fun b u h _ => by rw [upd_ne (ne_of_none h hn)]; exact h, fun b h => ?_⟩
    · by_cases hb : b = a
      · rw [hb]; exact .inr (.inr hn)
      · rw [upd_ne hb] at h; exact .inl h
    · by_cases hb : b = a
      · rw [hb]; exact hn
      · rw [upd_ne hb] at h; exact h
  refine ⟨⟨fun b u h => ?_, r.nd, r.len, fun p b c e1 e2 => ?_⟩, st⟩
  · by_cases hb : b = a
    · rw [hb, upd_same] at h
      rw [hb, upd_same]; exact h
    · rw [upd_ne hb] at h
      rw [upd_ne hb]; exact r.sub b u h
  · have q := r.cells p b c e1 e2
    have hb : b ≠ a := fun e => na (e ▸ List.mem_of_getElem? e1)
    exact q.step st (fun u e => by rw [upd_ne hb]; exact e) fun h => by rw [upd_ne hb]; exact h
/-- the local object p is changed -/
theorem RelS.write (r : RelS K F ad S H) {p : Nat} {a : Addr} {o : HO} {c c₀ : Cell} (hp : ad[p]? = some a) (h0 : S[p]? = some c₀) (hF : F a = none) (hc : CellOk K F ad (upd H a o) a c) : RelS K F ad (S.set p c) (upd H a o) ∧ Step F ad H F ad (upd H a o) := by
  have ha : a ∈ ad := List.mem_of_getElem? hp
  have st : Step F ad H F ad (upd H a o) := by
    refine ⟨fun _ _ h => h, fun _ _ h => .inl h, ⟨[], by simp, fun _ h => by simp at h⟩, fun b u h hn => ?_, fun b h => ?_⟩
    · rw [upd_ne (fun (e : b = a) => hn (e ▸ ha))]; exact h
    · by_cases hb : b = a
      · rw [hb, upd_same] at h; cases h
      · rw [upd_ne hb] at h; exact h
  refine ⟨⟨fun b u h => ?_, r.nd, by simp [r.len], fun q b c' e1 e2 => ?_⟩, st⟩
  · rw [upd_ne (ne_of_none h hF)]; exact r.sub b u h
  · rw [List.getElem?_set] at e2
    by_cases hq : p = q
    · subst hq
      rw [if_pos rfl, if_pos (List.getElem?_eq_some_iff.mp h0).1] at e2
      cases e2
      rw [hp] at e1
      cases e1
      exact hc
    · rw [if_neg hq] at e2
      have qq := r.cells q b c' e1 e2
      have hb : b ≠ a := fun e => hq (nd_ix r.nd hp (e ▸ e1))
      exact qq.step st (fun u e => by rw [upd_ne hb]; exact e) fun h => h
/-- the local object p becomes data -/
theorem RelS.freeze (r : RelS K F ad S H) {p : Nat} {a : Addr} {o : HO} {d : D} {c₀ : Cell} (hp : ad[p]? = some a) (h0 : S[p]? = some c₀) (hF : F a = none) (hH : H a = some o) (hd : Rep K (upd F a o) (.ref a) d) : RelS K (upd F a o) ad (S.set p (.frz d)) H ∧ Step F ad H (upd F a o) ad H := by
  have ha : a ∈ ad := List.mem_of_getElem? hp
  have st : Step F ad H (upd F a o) ad H := by
    refine ⟨fun b u h => by rw [upd_ne (ne_of_none h hF)]; exact h, fun b u h => ?_, ⟨[], by simp, fun _ h => by simp at h⟩, fun _ _ h _ => h, fun _ h => h⟩
    by_cases hb : b = a
    · rw [hb]; exact .inr (.inl ha)
    · rw [upd_ne hb] at h; exact .inl h
  refine ⟨⟨fun b u h => ?_, r.nd, by simp [r.len], fun q b c' e1 e2 => ?_⟩, st⟩
  · by_cases hb : b = a
    · rw [hb, upd_same] at h
      rw [hb, hH]; exact h
    · rw [upd_ne hb] at h; exact r.sub b u h
  · rw [List.getElem?_set] at e2
    by_cases hq : p = q
    · subst hq
      rw [if_pos rfl, if_pos (List.getElem?_eq_some_iff.mp h0).1] at e2
      cases e2
      rw [hp] at e1
      cases e1
      exact ⟨hd, o, hH⟩
    · rw [if_neg hq] at e2
      have qq := r.cells q b c' e1 e2
      have hb : b ≠ a := fun e => hq (nd_ix r.nd hp (e ▸ e1))
      exact qq.step st (fun u e => e) fun h => by rw [upd_ne hb]; exact h
end
end FL
/-! FL: the functional readings. -/
namespace FL
open PySem PySem.Spec PyProof.Rows L2
abbrev SF := Sg → Cs → Option (Fl × Sg × Cs)

theorem Go.refl {K : Frg} {F : Hp} {ad : List Addr} {H : Hp} {S : Cs} (r : RelS K F ad S H) : Go K F ad H F ad H S := ⟨.refl, r⟩

def tE (K : Frg) (f : EF) : TE := fun τ H Q => ∃ F ad σ S t S', RelS K F ad S H ∧ SlotsOk K F ad σ τ ∧ f σ S = some (t, S') ∧
  ∀ F' ad' H' v, Go K F ad H F' ad' H' S' → RepT K F' ad' v t → Q v H'
def tB (K : Frg) (f : BF) : TT := fun τ H Q => ∃ F ad σ S b S', RelS K F ad S H ∧ SlotsOk K F ad σ τ ∧ f σ S = some (b, S') ∧
  ∀ F' ad' H', Go K F ad H F' ad' H' S' → Q b H'
def tA (K : Frg) (f : AF) : TA := fun τ H Q => ∃ F ad σ S ts S', RelS K F ad S H ∧ SlotsOk K F ad σ τ ∧ f σ S = some (ts, S') ∧
  ∀ F' ad' H' vs, Go K F ad H F' ad' H' S' → RepTs K F' ad' vs ts → Q vs H'
/-- what is wanted behind a statement -/
def Fin (K : Frg) (F : Hp) (ad : List Addr) (H : Hp) (D : Ends) (o : Fl × Sg × Cs) : Prop :=
  match o.1 with
  | .nx => ∀ F' ad' H' τ', Go K F ad H F' ad' H' o.2.2 → SlotsOk K F' ad' o.2.1 τ' → D.nx τ' H'
  | .bk => ∀ F' ad' H' τ', Go K F ad H F' ad' H' o.2.2 → SlotsOk K F' ad' o.2.1 τ' → D.bk τ' H'
  | .ct => ∀ F' ad' H' τ', Go K F ad H F' ad' H' o.2.2 → SlotsOk K F' ad' o.2.1 τ' → D.ct τ' H'
  | .rt t => ∀ F' ad' H' v, Go K F ad H F' ad' H' o.2.2 → RepT K F' ad' v t → D.rt v H'
def tS (K : Frg) (f : SF) : TS := fun D τ H => ∃ F ad σ S o, RelS K F ad S H ∧ SlotsOk K F ad σ τ ∧ f σ S = some o ∧ Fin K F ad H D o
def FE (X : Cx) (e : Expr) (f : EF) : Prop := PE X e (tE X.K f)
def FB (X : Cx) (e : Expr) (f : BF) : Prop := PT X e (tB X.K f)
def FW (X : Cx) (e : Expr) (f : BF) : Prop := PW X e (tB X.K f)
def FA (X : Cx) (es : List Expr) (f : AF) : Prop := PA X es (tA X.K f)
def FS (X : Cx) (st : Stmt) (f : SF) : Prop := PS X st (tS X.K f)
def FSs (X : Cx) (st : List Stmt) (f : SF) : Prop := PSs X st (tS X.K f)
theorem bind_some {α β : Type} {x : Option α} {f : α → Option β} {b : β} (h : x.bind f = some b) : ∃ a, x = some a ∧ f a = some b := by
  cases x with
  | none => cases h
  | some a => exact ⟨a, rfl, h⟩

section
variable {X : Cx}
/-! ### names, constants -/
def cV (i : Nat) : EF := fun σ S => match σ[i]? with
  | some (some t) => some (t, S)
  | _ => none
theorem fv (i : Nat) {x : Str} {pos : Pos} (hN : X.N[i]? = some x := by rfl) (hv : Vis X.env.scope x := by first | exact Or.inl rfl | exact Or.inr (Or.inl rfl) | exact Or.inr (Or.inr rfl)) (hd : (x == ("__debug__" : Str)) = false := by decide)
    (hcd : (x == ("__classdict__" : Str)) = false := by decide) : FE X (.Name x pos) (cV i) := by
  refine PE.imp (pe_var hN hv hd hcd) fun τ H Q ⟨F, ad, σ, S, t, S', r, so, e, k⟩ => ?_
  unfold cV at e
  split at e
  · rename_i u hu
    cases e
    obtain ⟨v, h1, h2⟩ := so.2 i _ hu
    exact ⟨v, h1, k F ad H v (.refl r) h2⟩
  · cases e
def cK (d : D) : EF := fun _ S => some (.d d, S)
/-! ### operators of two values -/
def cBin (g : OF) (fa fb : EF) : EF := fun σ S => (fa σ S).bind fun p => (fb σ p.2).bind fun q => g p.1 q.1 q.2
theorem two {fa fb : EF} {g : OF} {τ : L2.St} {H : Hp} {Q : VK} (h : tE X.K (cBin g fa fb) τ H Q) : tE X.K fa τ H fun x H1 => tE X.K fb τ H1 fun y H2 => r2 X.K g x y H2 Q := by
  obtain ⟨F, ad, σ, S, t, S', r, so, e, k⟩ := h
  obtain ⟨⟨tx, S1⟩, e1, e⟩ := bind_some e
  obtain ⟨⟨ty, S2⟩, e2, e⟩ := bind_some e
  exact ⟨F, ad, σ, S, tx, S1, r, so, e1, fun F1 ad1 H1 v g1 rx => ⟨F1, ad1, σ, S1, ty, S2, g1.rel, so.step g1.st, e2, fun F2 ad2 H2 w g2 ry =>
    ⟨F2, ad2, S2, tx, ty, t, S', g2.rel, rx.step g2.st, ry, e, fun F3 ad3 H3 u g3 ru => k F3 ad3 H3 u ((g1.trans g2).trans g3) ru⟩⟩⟩
variable {a b : Expr} {fa fb : EF} {pos : Pos}
/-! ### tests -/
def cB (f : EF) : BF := fun σ S => (f σ S).bind fun p => match p.1 with
  | .d (.bl b) => some (b, p.2)
  | _ => none
theorem toB {f : EF} {τ : L2.St} {H : Hp} {Q : Bool → Hp → Prop} (h : tB X.K (cB f) τ H Q) : tE X.K f τ H fun x H1 => ∃ c, x = .bl c ∧ Q c H1 := by
  obtain ⟨F, ad, σ, S, b, S', r, so, e, k⟩ := h
  obtain ⟨⟨t, S1⟩, e1, e⟩ := bind_some e
  refine ⟨F, ad, σ, S, t, S1, r, so, e1, fun F1 ad1 H1 v g1 rx => ?_⟩
  simp only at e
  split at e
  · cases e
    exact ⟨b, rx.bl, k F1 ad1 H1 g1⟩
  · cases e
def cAnd (f g : BF) : BF := fun σ S => (f σ S).bind fun p => if p.1 = true then g σ p.2 else some (false, p.2)
def cOr (f g : BF) : BF := fun σ S => (f σ S).bind fun p => if p.1 = true then some (true, p.2) else g σ p.2
def cNot (f : BF) : BF := fun σ S => (f σ S).map fun p => (!p.1, p.2)
variable {fA fB : BF} {rest : List Expr}
/-! ### and, or, not as values of bools; a if t else b -/
def cBV (f : BF) : EF := fun σ S => (f σ S).map fun p => (.d (.bl p.1), p.2)
def cAndV (f g : EF) : EF := fun σ S => (cB f σ S).bind fun p => if p.1 = true then g σ p.2 else some (.d (.bl false), p.2)
def cOrV (f g : EF) : EF := fun σ S => (cB f σ S).bind fun p => if p.1 = true then some (.d (.bl true), p.2) else g σ p.2
def cIf (f : BF) (g h : EF) : EF := fun σ S => (f σ S).bind fun p => if p.1 = true then g σ p.2 else h σ p.2
/-! ### argument lists -/
def aNil : AF := fun _ S => some ([], S)
def aCons (f : EF) (g : AF) : AF := fun σ S => (f σ S).bind fun p => (g σ p.2).map fun q => (p.1 :: q.1, q.2)
variable {e : Expr} {es : List Expr} {fs : AF}
/-! ### data out of local objects -/
/-- nothing of the machine's heap moves -/
structure Still (K : Frg) (F : Hp) (ad : List Addr) (H F' : Hp) (S' : Cs) : Prop where
  st : Step F ad H F' ad H
  rel : RelS K F' ad S' H
theorem Still.go {K : Frg} {F : Hp} {ad : List Addr} {H F' : Hp} {S' : Cs} (h : Still K F ad H F' S') : Go K F ad H F' ad H S' := ⟨h.st, h.rel⟩
theorem mapS_ok {α : Type} {K : Frg} {f : T → Cs → Option (D × Cs)} {key : α → T}
    (hf : ∀ t S d S' F ad H v, RelS K F ad S H → RepT K F ad v t → f t S = some (d, S') → ∃ F', Still K F ad H F' S' ∧ Rep K F' v d) :
    ∀ (l : List α) (S : Cs) (ds : List D) (S' : Cs) (F : Hp) (ad : List Addr) (H : Hp) (vs : List V), RelS K F ad S H → RepTs K F ad vs (l.map key) → mapS f key l S = some (ds, S') → ∃ F', Still K F ad H F' S' ∧ Reps K F' vs ds
  | [], S, ds, S', F, ad, H, vs, r, q, e => by
    cases e
    cases q
    exact ⟨F, ⟨.refl, r⟩, .nil⟩
  | a :: l, S, ds, S', F, ad, H, vs, r, q, e => by
    obtain ⟨⟨d1, S1⟩, e1, e⟩ := bind_some e
    obtain ⟨⟨dr, S2⟩, e2, e⟩ := Option.map_eq_some_iff.mp e
    cases e
    cases q with
    | cons q1 qr =>
      obtain ⟨F1, g1, p1⟩ := hf _ _ _ _ F ad H _ r q1 e1
      obtain ⟨F2, g2, p2⟩ := mapS_ok hf l S1 dr S2 F1 ad H _ g1.rel (RepTs.step g1.st qr) e2
      exact ⟨F2, ⟨g1.st.trans g2.st, g2.rel⟩, .cons (p1.mono g2.st.fsub) p2⟩
theorem RelS.notF {K : Frg} {F : Hp} {ad : List Addr} {S : Cs} {H : Hp} (r : RelS K F ad S H) {p : Nat} {a : Addr} (hp : ad[p]? = some a) (h : isFrz S[p]? ≠ true) : F a = none ∧ ∃ c, S[p]? = some c := by
  cases q : S[p]? with
  | none => rw [q] at h; exact absurd rfl h
  | some c =>
    rw [q] at h
    have z := r.cells p a c hp q
    cases c with
    | lst ts => exact ⟨z.1, _, rfl⟩
    | ins c fs => exact ⟨z.1, _, rfl⟩
    | frz d => exact absurd rfl h
theorem repF_zip {K : Frg} {F : Hp} {ad : List Addr} : ∀ {fvs : List (Str × V)} {fs : List (Str × T)} {ds : List D}, RepTF K F ad fvs fs → ∀ {F' : Hp}, Reps K F' (fvs.map (·.2)) ds → RepF K F' fvs ((fs.map (·.1)).zip ds)
  | _, _, _, .nil, _, .nil => .nil
  | (f, v) :: fvs, (g, t) :: fs, _, .cons q r, _, .cons q1 r1 => by
    have e : f = g := q.1
    subst e
    exact .cons q1 (repF_zip r r1)
theorem RepTF.vals {K : Frg} {F : Hp} {ad : List Addr} : ∀ {fvs : List (Str × V)} {fs : List (Str × T)}, RepTF K F ad fvs fs → RepTs K F ad (fvs.map (·.2)) (fs.map (·.2))
  | _, _, .nil => .nil
  | _, _, .cons q r => .cons q.2 (RepTF.vals r)
theorem toD_ok {K : Frg} : ∀ (n : Nat) (t : T) (S : Cs) (d : D) (S' : Cs) (F : Hp) (ad : List Addr) (H : Hp) (v : V), RelS K F ad S H → RepT K F ad v t → toD n t S = some (d, S') → ∃ F', Still K F ad H F' S' ∧ Rep K F' v d := by
  intro n
  induction n with
  | zero =>
    intro t S d S' F ad H v r q e
    cases t with
    | d d0 =>
      have e' : some (d0, S) = some (d, S') := by
        unfold toD at e; exact e
      cases e'
      exact ⟨F, ⟨.refl, r⟩, q⟩
    | own p => unfold toD at e; cases e
  | succ n ih =>
    intro t S d S' F ad H v r q e
    cases t with
    | d d0 =>
      have e' : some (d0, S) = some (d, S') := by
        unfold toD at e; exact e
      cases e'
      exact ⟨F, ⟨.refl, r⟩, q⟩
    | own p =>
      obtain ⟨a, hp, rfl⟩ := q
      unfold toD at e
      split at e
      · rename_i d0 h0
        cases e
        exact ⟨F, ⟨.refl, r⟩, (r.cells p a _ hp h0).1⟩
      · rename_i ts h0
        obtain ⟨_, vs, hH, rs⟩ := r.cells p a _ hp h0
        obtain ⟨⟨ds, S1⟩, e1, e⟩ := bind_some e
        obtain ⟨F1, g1, p1⟩ := mapS_ok (K := K) ih ts S ds S1 F ad H vs r (by rw [List.map_id]; exact rs) e1
        simp only at e
        split at e
        · cases e
        · rename_i hz
          cases e
          obtain ⟨nF, c1, hc1⟩ := g1.rel.notF hp hz
          have hd : Rep K (upd F1 a (.lst vs)) (.ref a) (.lst ds) := .lst upd_same (p1.mono fun b o h => by rw [upd_ne (ne_of_none h nF)]; exact h)
          obtain ⟨r2, s2⟩ := g1.rel.freeze hp hc1 nF hH hd
          exact ⟨_, ⟨g1.st.trans s2, r2⟩, hd⟩
      · rename_i c fs h0
        obtain ⟨_, dx, fvs, hH, rs⟩ := r.cells p a _ hp h0
        obtain ⟨⟨ds, S1⟩, e1, e⟩ := bind_some e
        obtain ⟨F1, g1, p1⟩ := mapS_ok (K := K) ih fs S ds S1 F ad H (fvs.map (·.2)) r rs.vals e1
        simp only at e
        split at e
        · cases e
        · rename_i hz
          cases e
          obtain ⟨nF, c1, hc1⟩ := g1.rel.notF hp hz
          have hd : Rep K (upd F1 a (.ins (He.ga K c) dx fvs)) (.ref a) (.obj c ((fs.map (·.1)).zip ds)) := .obj upd_same (repF_zip rs (p1.mono fun b o h => by rw [upd_ne (ne_of_none h nF)]; exact h))
          obtain ⟨r2, s2⟩ := g1.rel.freeze hp hc1 nF hH hd
          exact ⟨_, ⟨g1.st.trans s2, r2⟩, hd⟩
      · cases e
def toDs (ts : List T) (S : Cs) : Option (List D × Cs) := mapS (toD dep) id ts S
theorem toDs_ok {K : Frg} {ts : List T} {S : Cs} {ds : List D} {S' : Cs} {F : Hp} {ad : List Addr} {H : Hp} {vs : List V} (r : RelS K F ad S H) (q : RepTs K F ad vs ts) (e : toDs ts S = some (ds, S')) : ∃ F', Still K F ad H F' S' ∧ Reps K F' vs ds :=
  mapS_ok (toD_ok dep) ts S ds S' F ad H vs r (by rw [List.map_id]; exact q) e

/-! ### displays -/
/-- (a, b, ..): data -/
def cTup (f : AF) : EF := fun σ S => (f σ S).bind fun p => if p.1.length ≤ sizeLine then (toDs p.1 p.2).map fun q => (.d (.tup q.1), q.2) else none
/-- [a, b, ..]: a local object -/
def cLst (f : AF) : EF := fun σ S => (f σ S).bind fun p => if p.1.length ≤ sizeLine then some (.own p.2.length, p.2 ++ [.lst p.1]) else none
theorem new_lst {K : Frg} {F : Hp} {ad : List Addr} {S : Cs} {H : Hp} {a : Addr} {vs : List V} {ts : List T} (r : RelS K F ad S H) (hn : H a = none) (q : RepTs K F ad vs ts) :
    Go K F ad H F (ad ++ [a]) (upd H a (.lst vs)) (S ++ [.lst ts]) ∧ RepT K F (ad ++ [a]) (.ref a) (.own S.length) := by
  obtain ⟨r2, s2⟩ := r.new (o := .lst vs) hn (c := .lst ts) fun l => ⟨r.fresh hn, vs, upd_same, Paired.mapP q fun _ t z => RepT.mono (fun _ _ h => h) t z⟩
  exact ⟨⟨s2, r2⟩, a, by rw [← r.len, List.getElem?_append_right (Nat.le_refl _)]; simp, rfl⟩
end
end FL
/-! FL: operators, subscripts, calls. -/
namespace FL
open PySem PySem.Spec PyProof.Rows L2
def asS : T → Option Str
  | .d (.str i) => some i
  | _ => none
def deref (t : T) (S : Cs) : T := match t with
  | .own p => (match S[p]? with
    | some (.frz d) => .d d
    | _ => .own p)
  | t => t
/-- what a sequence holds; true: a tuple -/
def seqOf (t : T) (S : Cs) : Option (Bool × List T) := match deref t S with
  | .d (.tup ds) => some (true, ds.map .d)
  | .d (.lst ds) => some (false, ds.map .d)
  | .d (.scr ns) => some (false, ns.map fun i => .d (.int i))
  | .own p => (match S[p]? with
    | some (.lst ts) => some (false, ts)
    | _ => none)
  | _ => none
/-- what a list (not the script) holds -/
def lstOf (t : T) (S : Cs) : Option (List T) := match deref t S with
  | .d (.lst ds) => some (ds.map .d)
  | .own p => (match S[p]? with
    | some (.lst ts) => some ts
    | _ => none)
  | _ => none
section
variable {K : Frg} {F : Hp} {ad : List Addr} {S : Cs} {H : Hp} {v : V}
theorem asI_ok {t : T} {i : Int} (e : asI t = some i) (r : RepT K F ad v t) : v = .int i := by
  unfold asI at e
  split at e
  · cases e; exact r.int
  · cases e
theorem asS_ok {t : T} {i : Str} (e : asS t = some i) (r : RepT K F ad v t) : v = .str i := by
  unfold asS at e
  split at e
  · cases e; exact r.str
  · cases e
theorem deref_ok {t : T} (g : RelS K F ad S H) (r : RepT K F ad v t) : RepT K F ad v (deref t S) := by
  cases t with
  | d d => exact r
  | own p =>
    obtain ⟨a, hp, rfl⟩ := r
    unfold deref
    simp only
    split
    · rename_i d h0
      exact (g.cells p a _ hp h0).1
    · exact ⟨a, hp, rfl⟩
theorem scr_ts : ∀ (ns : List Int), RepTs K F ad (ns.map V.int) (ns.map fun i => T.d (.int i))
  | [] => .nil
  | i :: ns => .cons (Rep.int i) (scr_ts ns)
theorem seqOf_ok {t : T} {b : Bool} {ts : List T} (g : RelS K F ad S H) (r : RepT K F ad v t) (e : seqOf t S = some (b, ts)) :
    ∃ a vs, v = .ref a ∧ (b = true → SqT K F a vs) ∧ (b = true → SqT K H a vs) ∧ (b = false → SqL K H a vs) ∧ RepTs K F ad vs ts := by
  have r := deref_ok g r
  unfold seqOf at e
  split at e
  · rename_i ds h0
    rw [h0] at r
    cases e
    cases (show Rep K F v (.tup ds) from r) with
    | tup q rs => exact ⟨_, _, rfl, fun _ => q, fun _ => SqT.sub g.sub q, fun z => (Bool.noConfusion z), rs.ts⟩
  · rename_i ds h0
    rw [h0] at r
    cases e
    cases (show Rep K F v (.lst ds) from r) with
    | lst q rs => exact ⟨_, _, rfl, fun z => (Bool.noConfusion z), fun z => (Bool.noConfusion z), fun _ => .of (g.sub _ _ q), rs.ts⟩
  · rename_i ds h0
    rw [h0] at r
    cases e
    cases (show Rep K F v (.scr ds) from r) with
    | scr q => exact ⟨_, _, rfl, fun z => (Bool.noConfusion z), fun z => (Bool.noConfusion z), fun _ => SqL.sub g.sub q, scr_ts ds⟩
  · rename_i p h0
    rw [h0] at r
    obtain ⟨a, hp, rfl⟩ := r
    split at e
    · rename_i us h1
      cases e
      obtain ⟨_, vs, hH, rs⟩ := g.cells p a _ hp h1
      exact ⟨a, vs, rfl, fun z => (Bool.noConfusion z), fun z => (Bool.noConfusion z), fun _ => .of hH, rs⟩
    · cases e
  · cases e
theorem lstOf_ok {t : T} {ts : List T} (g : RelS K F ad S H) (r : RepT K F ad v t) (e : lstOf t S = some ts) :
    ∃ a vs, v = .ref a ∧ H a = some (.lst vs) ∧ RepTs K F ad vs ts := by
  have r := deref_ok g r
  unfold lstOf at e
  split at e
  · rename_i ds h0
    rw [h0] at r
    cases e
    cases (show Rep K F v (.lst ds) from r) with
    | lst q rs => exact ⟨_, _, rfl, g.sub _ _ q, rs.ts⟩
  · rename_i p h0
    rw [h0] at r
    obtain ⟨a, hp, rfl⟩ := r
    split at e
    · rename_i us h1
      cases e
      obtain ⟨_, vs, hH, rs⟩ := g.cells p a _ hp h1
      exact ⟨a, vs, rfl, hH, rs⟩
    · cases e
  · cases e
end
section
variable {X : Cx}
/-! ### ints -/
def oI0 (g : Int → Int → D) : OF := fun x y S => match asI x, asI y with
  | some i, some j => some (.d (g i j), S)
  | _, _ => none
theorem opF_I {f : Value → Value → Sem Value} {C : Int → Int → Prop} [∀ i j, Decidable (C i j)] {gv : Int → Int → V} {g : Int → Int → D} (h : OpR X f (rI C gv)) (hg : ∀ i j K F, Rep K F (gv i j) (g i j)) : OpF X f (oI C g) := by
  refine OpR.imp h fun x y H Q ⟨F, ad, S, tx, ty, t, S', r, rx, ry, e, k⟩ => ?_
  unfold oI at e
  split at e
  · rename_i i j e1 e2
    split at e
    · rename_i hc
      cases e
      exact ⟨i, j, asI_ok e1 rx, asI_ok e2 ry, hc, k F ad H _ (.refl r) (hg _ _ _ _)⟩
    · cases e
  · cases e
theorem opF_I0 {f : Value → Value → Sem Value} {gv : Int → Int → V} {g : Int → Int → D} (h : OpR X f (rI0 gv)) (hg : ∀ i j K F, Rep K F (gv i j) (g i j)) : OpF X f (oI0 g) := by
  refine OpR.imp h fun x y H Q ⟨F, ad, S, tx, ty, t, S', r, rx, ry, e, k⟩ => ?_
  unfold oI0 at e
  split at e
  · rename_i i j e1 e2
    cases e
    exact ⟨i, j, asI_ok e1 rx, asI_ok e2 ry, k F ad H _ (.refl r) (hg _ _ _ _)⟩
  · cases e
abbrev oSub : OF := oI0 fun i j => .int (i - j)
abbrev oMod : OF := oI (fun _ j => 0 < j) fun i j => .int (i % j)
abbrev oDiv : OF := oI CDivW fun i j => .int (i / j)
abbrev oPow : OF := oI CPow fun i j => .int (i ^ j.toNat)
abbrev oLt : OF := oI0 fun i j => .bl (decide (i < j))
abbrev oLe : OF := oI0 fun i j => .bl (decide (i ≤ j))
abbrev oGt : OF := oI0 fun i j => .bl (decide (j < i))
abbrev oGe : OF := oI0 fun i j => .bl (decide (j ≤ i))
theorem f_sub : OpF X (binaryOp .Sub) oSub := opF_I0 op_sub fun _ _ _ _ => .int _
theorem f_mod : OpF X (binaryOp .Mod) oMod := opF_I op_mod fun _ _ _ _ => .int _
theorem f_div : OpF X (binaryOp .FloorDiv) oDiv := opF_I op_fdivW fun _ _ _ _ => .int _
theorem f_pow : OpF X (binaryOp .Pow) oPow := opF_I op_pow fun _ _ _ _ => .int _
theorem f_lt : OpF X (compareOp .Lt) oLt := opF_I0 op_lt fun _ _ _ _ => .bl _
theorem f_le : OpF X (compareOp .LtE) oLe := opF_I0 op_le fun _ _ _ _ => .bl _
theorem f_gt : OpF X (compareOp .Gt) oGt := opF_I0 op_gt fun _ _ _ _ => .bl _
theorem f_ge : OpF X (compareOp .GtE) oGe := opF_I0 op_ge fun _ _ _ _ => .bl _
/-! ### + and * -/
def oCat : OF := fun x y S => match lstOf x S, lstOf y S with
  | some a, some b => if a.length + b.length ≤ sizeLine then some (.own S.length, S ++ [.lst (a ++ b)]) else none
  | _, _ => none
theorem f_cat : OpF X (binaryOp .Add) oCat := by
  refine OpR.imp op_cat fun x y H Q ⟨F, ad, S, tx, ty, t, S', r, rx, ry, e, k⟩ => ?_
  unfold oCat at e
  split at e
  · rename_i us ws e1 e2
    obtain ⟨a, vs, rfl, ha, qa⟩ := lstOf_ok r rx e1
    obtain ⟨b, zs, rfl, hb, qb⟩ := lstOf_ok r ry e2
    split at e
    · rename_i hz
      cases e
      refine ⟨a, b, vs, zs, rfl, rfl, ha, hb, by rw [Paired.length qa, Paired.length qb]; exact hz, fun p hp => ?_⟩
      obtain ⟨g, q⟩ := new_lst r hp (Paired.append qa qb)
      exact k _ _ _ _ g q
    · cases e
  · cases e
def oCatS : OF := fun x y S => match asS x, asS y with
  | some a, some b => if a.length + b.length ≤ sizeLine then some (.d (.str (a ++ b)), S) else none
  | _, _ => none
theorem f_catS : OpF X (binaryOp .Add) oCatS := by
  refine OpR.imp op_add_str fun x y H Q ⟨F, ad, S, tx, ty, t, S', r, rx, ry, e, k⟩ => ?_
  unfold oCatS at e
  split at e
  · rename_i us ws e1 e2
    split at e
    · rename_i hz
      cases e
      exact ⟨us, ws, asS_ok e1 rx, asS_ok e2 ry, hz, k F ad H _ (.refl r) (Rep.str _)⟩
    · cases e
  · cases e
def asT (t : T) (S : Cs) : Option (List D) := match deref t S with
  | .d (.tup ds) => some ds
  | _ => none
theorem asT_ok {K : Frg} {F : Hp} {ad : List Addr} {S : Cs} {H : Hp} {v : V} {t : T} {ds : List D} (g : RelS K F ad S H) (r : RepT K F ad v t) (e : asT t S = some ds) : ∃ a vs, v = .ref a ∧ SqT K F a vs ∧ Reps K F vs ds := by
  have r := deref_ok g r
  unfold asT at e
  split at e
  · rename_i es h0
    rw [h0] at r
    cases e
    cases (show Rep K F v (.tup ds) from r) with
    | tup q rs => exact ⟨_, _, rfl, q, rs⟩
  · cases e
def oCatT : OF := fun x y S => match asT x S, asT y S with
  | some a, some b => if a ≠ [] ∧ a.length + b.length ≤ sizeLine then some (.d (.tup (a ++ b)), S) else none
  | _, _ => none
theorem Reps.nil_iff {K : Frg} {F : Hp} {vs : List V} {ds : List D} (r : Reps K F vs ds) : vs = [] ↔ ds = [] := by
  cases r <;> simp
theorem f_catT : OpF X (binaryOp .Add) oCatT := by
  refine OpR.imp op_catT fun x y H Q ⟨F, ad, S, tx, ty, t, S', r, rx, ry, e, k⟩ => ?_
  unfold oCatT at e
  split at e
  · rename_i us ws e1 e2
    obtain ⟨a, vs, rfl, ha, qa⟩ := asT_ok r rx e1
    obtain ⟨b, zs, rfl, hb, qb⟩ := asT_ok r ry e2
    split at e
    · rename_i hz
      cases e
      refine ⟨a, b, vs, zs, rfl, rfl, SqT.sub r.sub ha, SqT.sub r.sub hb, fun z => hz.1 (qa.nil_iff.mp z), by rw [qa.length, qb.length]; exact hz.2, fun z => ?_, fun z p hp => ?_⟩
      · refine k F ad H _ (.refl r) (Rep.tup ha ?_)
        have z2 := qb.nil_iff.mp z
        rw [z2, List.append_nil]
        exact qa
      · obtain ⟨r3, s3⟩ := r.newF (o := .tup (vs ++ zs)) hp
        exact k _ ad _ _ ⟨s3, r3⟩ (Rep.tup (.of upd_same) ((Reps.append qa qb).mono s3.fsub))
    · cases e
  · cases e
def oOr (f g : OF) : OF := fun x y S => match f x y S with
  | some z => some z
  | none => g x y S
theorem OpF.or {f : Value → Value → Sem Value} {g g' : OF} (h : OpF X f g) (h' : OpF X f g') : OpF X f (oOr g g') := by
  refine OpR.imp (OpR.or h h') fun x y H Q ⟨F, ad, S, tx, ty, t, S', r, rx, ry, e, k⟩ => ?_
  unfold oOr at e
  split at e
  · rename_i z e1
    cases e
    exact .inl ⟨F, ad, S, tx, ty, t, S', r, rx, ry, e1, k⟩
  · exact .inr ⟨F, ad, S, tx, ty, t, S', r, rx, ry, e, k⟩
abbrev oAddI : OF := oI0 fun i j => .int (i + j)
abbrev oAdd : OF := oOr oAddI (oOr oCat (oOr oCatT oCatS))
theorem f_add : OpF X (binaryOp .Add) oAdd := (opF_I0 op_add fun _ _ _ _ => .int _).or (f_cat.or (f_catT.or f_catS))
theorem if_addI : OpF X (inplaceOp .Add) oAddI := opF_I0 iop_add fun _ _ _ _ => .int _
theorem if_subI : OpF X (inplaceOp .Sub) oSub := opF_I0 iop_sub fun _ _ _ _ => .int _
abbrev oMulI : OF := oI CMul fun i j => .int (i * j)
def oRep : OF := fun x y S => match lstOf x S, asI y with
  | some a, some k => if -(2 ^ 63) ≤ k ∧ k < 2 ^ 63 ∧ a.length * k.toNat ≤ sizeLine then some (.own S.length, S ++ [.lst (List.replicate k.toNat a).flatten]) else none
  | _, _ => none
theorem Paired.rep {α β : Type} {R : α → β → Prop} {vs : List α} {ds : List β} (r : Paired R vs ds) : ∀ n : Nat, Paired R (List.replicate n vs).flatten (List.replicate n ds).flatten
  | 0 => .nil
  | n + 1 => by
    rw [List.replicate_succ, List.replicate_succ, List.flatten_cons, List.flatten_cons]
    exact Paired.append r (Paired.rep r n)
theorem f_rep : OpF X (binaryOp .Mult) oRep := by
  refine OpR.imp op_rep fun x y H Q ⟨F, ad, S, tx, ty, t, S', r, rx, ry, e, k⟩ => ?_
  unfold oRep at e
  split at e
  · rename_i us i e1 e2
    obtain ⟨a, vs, rfl, ha, qa⟩ := lstOf_ok r rx e1
    split at e
    · rename_i hz
      cases e
      refine ⟨a, i, vs, rfl, asI_ok e2 ry, ha, hz.1, hz.2.1, by rw [Paired.length qa]; exact hz.2.2, fun p hp => ?_⟩
      obtain ⟨g, q⟩ := new_lst r hp (Paired.rep qa i.toNat)
      exact k _ _ _ _ g q
    · cases e
  · cases e
abbrev oMul : OF := oOr oMulI oRep
theorem f_mul : OpF X (binaryOp .Mult) oMul := (opF_I op_mul fun _ _ _ _ => .int _).or f_rep
/-! ### == -/
mutual
theorem pyD_ok {K : Frg} {F H : Hp} (h : ∀ b o, F b = some o → H b = some o) : ∀ {v : V} {d : D} {p : PyData}, Rep K F v d → pyD d = some p → Dp K H v p
  | _, _, _, .non, e => by unfold pyD at e; cases e; exact .non
  | _, _, _, .bl b, e => by unfold pyD at e; cases e; exact .bl b
  | _, _, _, .int i, e => by unfold pyD at e; cases e; exact .int i
  | _, _, _, .str x, e => by unfold pyD at e; cases e; exact .str x
  | _, _, _, .tup q r, e => by
    unfold pyD at e
    obtain ⟨ps, e1, e⟩ := Option.map_eq_some_iff.mp e
    cases e
    exact   .tup (SqT.sub h q) (pyDs_ok h r e1)
  | _, _, _, .lst q r, e => by
    unfold pyD at e
    obtain ⟨ps, e1, e⟩ := Option.map_eq_some_iff.mp e
    cases e
    exact .lst (.of (h _ _ q)) (pyDs_ok h r e1)
  | _, _, _, .obj q r, e => by unfold pyD at e; cases e
  | _, _, _, .scr q, e => by unfold pyD at e; cases e
  | _, _, _, .ty n, e => by unfold pyD at e; cases e
  | _, _, _, .glob n, e => by unfold pyD at e; cases e
  | _, _, _, .rng n, e => by unfold pyD at e; cases e
theorem pyDs_ok {K : Frg} {F H : Hp} (h : ∀ b o, F b = some o → H b = some o) : ∀ {vs : List V} {ds : List D} {ps : List PyData}, Reps K F vs ds → pyDs ds = some ps → DpAll K H vs ps
  | _, _, _, .nil, e => by unfold pyDs at e; cases e; exact .nil
  | _, _, _, .cons q r, e => by
    unfold pyDs at e
    obtain ⟨p1, e1, e⟩ := bind_some e
    obtain ⟨pr, e2, e⟩ := Option.map_eq_some_iff.mp e
    cases e
    exact .cons (pyD_ok h q e1) (pyDs_ok h r e2)
end
def mapO {α : Type} (f : T → Option α) : List T → Option (List α)
  | [] => some []
  | t :: ts => (f t).bind fun a => (mapO f ts).map fun l => a :: l
def pyT : Nat → Cs → T → Option PyData
  | _, _, .d d => pyD d
  | 0, _, .own _ => none
  | n + 1, S, .own p => match S[p]? with
    | some (.frz d) => pyD d
    | some (.lst ts) => (mapO (pyT n S) ts).map .list
    | _ => none
theorem mapO_ok {K : Frg} {F : Hp} {ad : List Addr} {S : Cs} {H : Hp} {f : T → Option PyData} (hf : ∀ t v p, RepT K F ad v t → f t = some p → Dp K H v p) : ∀ {vs : List V} {ts : List T} {ps : List PyData}, RepTs K F ad vs ts → mapO f ts = some ps → DpAll K H vs ps
  | _, _, _, .nil, e => by unfold mapO at e; cases e; exact .nil
  | _, _, _, .cons q r, e => by
    unfold mapO at e
    obtain ⟨p1, e1, e⟩ := bind_some e
    obtain ⟨pr, e2, e⟩ := Option.map_eq_some_iff.mp e
    cases e
    exact .cons (hf _ _ _ q e1) (mapO_ok (S := S) hf r e2)
theorem pyT_ok {K : Frg} {F : Hp} {ad : List Addr} {S : Cs} {H : Hp} (g : RelS K F ad S H) : ∀ (n : Nat) (t : T) (v : V) (p : PyData), RepT K F ad v t → pyT n S t = some p → Dp K H v p := by
  intro n
  induction n with
  | zero =>
    intro t v p r e
    cases t with
    | d d => exact pyD_ok g.sub r (by unfold pyT at e; exact e)
    | own q => unfold pyT at e; cases e
  | succ n ih =>
    intro t v p r e
    cases t with
    | d d => exact pyD_ok g.sub r (by unfold pyT at e; exact e)
    | own q =>
      obtain ⟨a, hp, rfl⟩ := r
      unfold pyT at e
      split at e
      · rename_i d h0
        exact pyD_ok g.sub (g.cells q a _ hp h0).1 e
      · rename_i ts h0
        obtain ⟨ps, e1, e⟩ := Option.map_eq_some_iff.mp e
        cases e
        obtain ⟨_, vs, hH, rs⟩ := g.cells q a _ hp h0
        exact .lst (.of hH) (mapO_ok (S := S) ih rs e1)
      · cases e
/-- == of data at any depth -/
def eqT (x y : T) (S : Cs) : Option Bool := match pyT dep S x, pyT dep S y with
  | some p, some q => if SeqAt.shaped p = true ∧ SeqAt.shaped q = true then some (PyData.eqv p q) else none
  | _, _ => none
def oEq : OF := fun x y S => (eqT x y S).map fun b => (.d (.bl b), S)
def oNe : OF := fun x y S => (eqT x y S).map fun b => (.d (.bl (!b)), S)
theorem f_eq (hu : X.A.units + 64 < cLine) : OpF X (compareOp .Eq) oEq := by
  refine OpR.imp (op_eqD hu) fun x y H Q ⟨F, ad, S, tx, ty, t, S', r, rx, ry, e, k⟩ => ?_
  obtain ⟨b, e1, e⟩ := Option.map_eq_some_iff.mp e
  cases e
  unfold eqT at e1
  split at e1
  · rename_i p q ep eq
    split at e1
    · rename_i hs
      cases e1
      exact ⟨p, q, pyT_ok r _ _ _ _ rx ep, pyT_ok r _ _ _ _ ry eq, hs.1, hs.2, k F ad H _ (.refl r) (Rep.bl _)⟩
    · cases e1
  · cases e1
theorem f_ne (hu : X.A.units + 64 < cLine) : OpF X (compareOp .NotEq) oNe := by
  refine OpR.imp (op_neD hu) fun x y H Q ⟨F, ad, S, tx, ty, t, S', r, rx, ry, e, k⟩ => ?_
  obtain ⟨b, e1, e⟩ := Option.map_eq_some_iff.mp e
  cases e
  unfold eqT at e1
  split at e1
  · rename_i p q ep eq
    split at e1
    · rename_i hs
      cases e1
      exact ⟨p, q, pyT_ok r _ _ _ _ rx ep, pyT_ok r _ _ _ _ ry eq, hs.1, hs.2, k F ad H _ (.refl r) (Rep.bl _)⟩
    · cases e1
  · cases e1
/-! ### is None -/
def isNone : T → Bool
  | .d .non => true
  | _ => false
theorem isNone_ok {K : Frg} {F : Hp} {ad : List Addr} {v : V} {t : T} (r : RepT K F ad v t) : decide (v = .non) = isNone t := by
  cases t with
  | own p => obtain ⟨a, _, rfl⟩ := r; rfl
  | d d => cases (show Rep K F v d from r) <;> rfl
def oIs : OF := fun x y S => if isNone y = true then some (.d (.bl (isNone x)), S) else none
def oIsN : OF := fun x y S => if isNone y = true then some (.d (.bl (!isNone x)), S) else none
theorem f_is : OpF X (compareOp .Is) oIs := by
  refine OpR.imp op_isN fun x y H Q ⟨F, ad, S, tx, ty, t, S', r, rx, ry, e, k⟩ => ?_
  unfold oIs at e
  split at e
  · rename_i hn
    cases e
    refine ⟨of_decide_eq_true ((isNone_ok ry).trans hn), ?_⟩
    rw [isNone_ok rx]
    exact k F ad H _ (.refl r) (Rep.bl _)
  · cases e
theorem f_isN : OpF X (compareOp .IsNot) oIsN := by
  refine OpR.imp op_notN fun x y H Q ⟨F, ad, S, tx, ty, t, S', r, rx, ry, e, k⟩ => ?_
  unfold oIsN at e
  split at e
  · rename_i hn
    cases e
    refine ⟨of_decide_eq_true ((isNone_ok ry).trans hn), ?_⟩
    rw [isNone_ok rx]
    exact k F ad H _ (.refl r) (Rep.bl _)
  · cases e
/-! ### -a -/
def cUn (g : T → Cs → Option (T × Cs)) (f : EF) : EF := fun σ S => (f σ S).bind fun p => g p.1 p.2
def oNeg (x : T) (S : Cs) : Option (T × Cs) := (asI x).map fun i => (.d (.int (-i)), S)
/-! ### a < b < c -/
def cChain (g g' : OF) (fa fb fc : EF) : EF := fun σ S => (fa σ S).bind fun p => (fb σ p.2).bind fun q => (g p.1 q.1 q.2).bind fun z => match z.1 with
  | .d (.bl true) => (fc σ z.2).bind fun u => g' q.1 u.1 u.2
  | .d (.bl false) => some (.d (.bl false), z.2)
  | _ => none
/-! ### subscripts -/
def IxF (X : Cx) (g : OF) : Prop := IxR X (r2 X.K g)
def oIx : OF := fun x y S => match asI y with
  | none => none
  | some i => (match seqOf x S with
    | some p => (atI p.2 i).map fun t => (t, S)
    | none => (match asS x with
      | some z => if z.length ≤ sizeLine then (atI z.cps.toList i).map fun c => (.d (.str ⟨#[c]⟩), S) else none
      | none => none))
theorem atI_ok {α β : Type} {R : α → β → Prop} {vs : List α} {ts : List β} (r : Paired R vs ts) {i : Int} {t : β} (e : atI ts i = some t) : ∃ v, atI vs i = some v ∧ R v t := by
  unfold atI at e
  obtain ⟨j, e1, e2⟩ := bind_some e
  obtain ⟨v, h1, h2⟩ := Paired.get r e2
  refine ⟨v, ?_, h2⟩
  unfold atI
  rw [Paired.length r, e1]
  exact h1
theorem f_ix : IxF X oIx := by
  refine IxR.imp ix_seq fun x y H Q ⟨F, ad, S, tx, ty, t, S', r, rx, ry, e, k⟩ => ?_
  unfold oIx at e
  split at e
  · cases e
  · rename_i i ei
    have ey := asI_ok ei ry
    split at e
    · rename_i p ep
      obtain ⟨u, e1, e⟩ := Option.map_eq_some_iff.mp e
      cases e
      obtain ⟨b, ts⟩ := p
      obtain ⟨a, vs, rfl, _, q1, q2, rs⟩ := seqOf_ok r rx ep
      obtain ⟨v, h1, h2⟩ := atI_ok rs e1
      cases b with
      | false => exact .inl ⟨a, vs, i, v, rfl, ey, q2 rfl, h1, k F ad H v (.refl r) h2⟩
      | true => exact .inr (.inl ⟨a, vs, i, v, rfl, ey, q1 rfl, h1, k F ad H v (.refl r) h2⟩)
    · split at e
      · rename_i z ez
        split at e
        · rename_i hz
          obtain ⟨u, e1, e⟩ := Option.map_eq_some_iff.mp e
          cases e
          exact .inr (.inr ⟨z, i, u, asS_ok ez rx, ey, hz, e1, k F ad H _ (.refl r) (Rep.str _)⟩)
        · cases e
      · cases e
/-! ### calls of the program's own defs -/
/-- a call that may change the caller's objects -/
def cCallS (m : MF) (dts : List T) (n : Nat) (fs : AF) : EF := fun σ S => (fs σ S).bind fun p => if (p.1 ++ dts).length = n then m (p.1 ++ dts) p.2 else none
/-- a call upon data; the answer is data -/
def cCallP (m : MF) (dts : List T) (n : Nat) (fs : AF) : EF := fun σ S => (fs σ S).bind fun p => if (p.1 ++ dts).length = n then
  (toDs (p.1 ++ dts) p.2).bind fun q => (m (q.1.map .d) []).bind fun u => (toD dep u.1 u.2).map fun w => (.d w.1, q.2) else none
/-- the same; a list that comes back may be changed -/
def cCallN (m : MF) (dts : List T) (n : Nat) (fs : AF) : EF := fun σ S => (fs σ S).bind fun p => if (p.1 ++ dts).length = n then
  (toDs (p.1 ++ dts) p.2).bind fun q => (m (q.1.map .d) []).bind fun u => match u.1 with
    | .d d => some (.d d, q.2)
    | .own j => (match u.2[j]? with
      | some (.lst ts) => (toDs ts u.2).bind fun w => if isFrz w.2[j]? = true then none else some (.own q.2.length, q.2 ++ [.lst (w.1.map .d)])
      | _ => none) else none
theorem Go.wide {K : Frg} {F : Hp} {ad : List Addr} {S : Cs} {H F' H' : Hp} {ad' : List Addr} {S' : Cs} (r : RelS K F ad S H) (g : Go K F [] H F' ad' H' S') : Go K F ad H F' ad H' S := by
  have hn : ∀ a, (∃ o, H a = some o) → F a = none → F' a = none := fun a ⟨o, h⟩ hf => by
    cases q : F' a with
    | none => rfl
    | some u =>
      rcases g.st.fnew a u q with z | z | z
      · rw [hf] at z; cases z
      · simp at z
      · rw [h] at z; cases z
  have st : Step F ad H F' ad H' := ⟨g.st.fsub, fun b o h => by
    rcases g.st.fnew b o h with z | z | z
    · exact .inl z
    · simp at z
    · exact .inr (.inr z), ⟨[], by simp, fun _ h => by simp at h⟩, fun b o h _ => g.st.keep b o h (by simp), g.st.alive⟩
  refine ⟨st, ⟨g.rel.sub, r.nd, r.len, fun p a c e1 e2 => ?_⟩⟩
  have q := r.cells p a c e1 e2
  exact q.step st (fun o h => g.st.keep a o h (by simp)) fun h => hn a q.there h
theorem CellOk.more {K : Frg} {F : Hp} {ad : List Addr} {H : Hp} {a : Addr} {c : Cell} (l : List Addr) (q : CellOk K F ad H a c) : CellOk K F (ad ++ l) H a c := by
  cases c with
  | lst ts => obtain ⟨n, vs, e, q⟩ := q; exact ⟨n, vs, e, Paired.mapP q fun _ t q => RepT.mono (fun _ _ h => h) t q⟩
  | ins c fs => obtain ⟨n, dx, fvs, e, q⟩ := q; exact ⟨n, dx, fvs, e, Paired.mapP q fun _ t q => ⟨q.1, RepT.mono (fun _ _ h => h) t.2 q.2⟩⟩
  | frz d => exact q
/-- an object that stands apart becomes a local one -/
theorem RelS.adopt {K : Frg} {F : Hp} {ad : List Addr} {S : Cs} {H : Hp} {a : Addr} {c : Cell} (r : RelS K F ad S H) (na : a ∉ ad) (hc : ∀ l, CellOk K F (ad ++ l) H a c) : RelS K F (ad ++ [a]) (S ++ [c]) H := by
  refine ⟨r.sub, ?_, by simp [r.len], fun i b c' i1 i2 => ?_⟩
  · rw [List.nodup_append]
    exact ⟨r.nd, by simp, fun x hx y hy => by rw [List.mem_singleton.mp hy]; exact fun (z : x = a) => na (z ▸ hx)⟩
  · by_cases hi : i < ad.length
    · rw [List.getElem?_append_left hi] at i1
      rw [List.getElem?_append_left (by rw [← r.len]; exact hi)] at i2
      exact (r.cells i b c' i1 i2).more [a]
    · rw [List.getElem?_append_right (Nat.le_of_not_lt hi)] at i1
      rw [List.getElem?_append_right (by rw [← r.len]; exact Nat.le_of_not_lt hi), ← r.len] at i2
      have e0 : i - ad.length = 0 := by
        have := (List.getElem?_eq_some_iff.mp i1).1
        simp at this
        omega
      rw [e0] at i1 i2
      simp at i1 i2
      subst i1 i2
      exact hc [a]
section
variable {CX : CXT} {j n : Nat} {f : Addr} {fd : FuncData} {ps : List Str} {m : MF} {ds : List Value} {dvs : List V} {dts : List T} {E : XK} {x : Str} {p pos : Pos} {e : Expr} {es : List Expr} {fs : AF}
end
end
end FL
/-! FL: built-ins, methods, statements, loops. -/
namespace FL
open PySem PySem.Spec PyProof.Rows L2
section
variable {X : Cx}
/-! ### built-ins -/
def cCB (g : MF) (fs : AF) : EF := fun σ S => (fs σ S).bind fun p => g p.1 p.2
section
variable {g : MF} {fs : AF} {x : Str} {p pos : Pos} {e : Expr} {es : List Expr} {id : String}
theorem cb_rd {τ : L2.St} {H : Hp} {Q : VK} (h : tE X.K (cCB g fs) τ H Q) : tCB (rF X.K g) (tA X.K fs) τ H Q := by
  obtain ⟨F, ad, σ, S, t, S', r, so, e, k⟩ := h
  obtain ⟨⟨ts, S1⟩, e1, e⟩ := bind_some e
  exact ⟨F, ad, σ, S, ts, S1, r, so, e1, fun F1 ad1 H1 vs g1 rs => ⟨F1, ad1, S1, ts, t, S', g1.rel, rs, e, fun F' ad' H' v g rv => k F' ad' H' v (g1.trans g) rv⟩⟩
end
def bOr (f g : MF) : MF := fun ts S => match f ts S with
  | some z => some z
  | none => g ts S
theorem CallF.or {f : Value} {g g' : MF} (h : CallF X f g) (h' : CallF X f g') : CallF X f (bOr g g') := by
  intro pins s σ H xs us Q I rx q
  obtain ⟨F, ad, S, ts, t, S', r, rs, e, k⟩ := q
  unfold bOr at e
  split at e
  · rename_i z e1
    cases e
    exact h pins s σ H xs us Q I rx ⟨F, ad, S, ts, t, S', r, rs, e1, k⟩
  · exact h' pins s σ H xs us Q I rx ⟨F, ad, S, ts, t, S', r, rs, e, k⟩
theorem pair1 {α β : Type} {R : α → β → Prop} {vs : List α} {y : β} (r : Paired R vs [y]) : ∃ x, vs = [x] ∧ R x y := by
  cases r with
  | cons a b => cases b; exact ⟨_, rfl, a⟩
theorem pair2 {α β : Type} {R : α → β → Prop} {vs : List α} {y z : β} (r : Paired R vs [y, z]) : ∃ x w, vs = [x, w] ∧ R x y ∧ R w z := by
  cases r with
  | cons a b =>
    cases b with
    | cons c d => cases d; exact ⟨_, _, rfl, a, c⟩
def b2 (g : T → T → Cs → Option (T × Cs)) : MF := fun ts S => match ts with
  | [t, u] => g t u S
  | _ => none
theorem b1_some {g : T → Cs → Option (T × Cs)} {ts : List T} {S : Cs} {z : T × Cs} (e : b1 g ts S = some z) : ∃ t, ts = [t] ∧ g t S = some z := by
  unfold b1 at e
  split at e
  · exact ⟨_, rfl, e⟩
  · cases e
theorem b2_some {g : T → T → Cs → Option (T × Cs)} {ts : List T} {S : Cs} {z : T × Cs} (e : b2 g ts S = some z) : ∃ t u, ts = [t, u] ∧ g t u S = some z := by
  unfold b2 at e
  split at e
  · exact ⟨_, _, rfl, e⟩
  · cases e
def bLen : MF := b1 fun t S => match seqOf t S with
  | some p => some (.d (.int p.2.length), S)
  | none => none
theorem f_len : CallF X (.builtin "len") bLen := by
  refine CallR.imp call_len_seq fun vs H Q ⟨F, ad, S, ts, t, S', r, rs, e, k⟩ => ?_
  have e2 := b1_some (show b1 _ ts S = some (t, S') from e)
  clear e
  obtain ⟨_, rfl, e⟩ := e2
  split at e
  · rename_i q hq
    cases e
    obtain ⟨x, rfl, rx⟩ := pair1 rs
    obtain ⟨b, us⟩ := q
    obtain ⟨a, ws, rfl, _, q1, q2, rr⟩ := seqOf_ok r rx hq
    refine ⟨a, ws, rfl, ?_, ?_⟩
    · cases b with
      | false => exact .inl (q2 rfl)
      | true => exact .inr (q1 rfl)
    · rw [Paired.length rr]
      exact k F ad H _ (.refl r) (Rep.int _)
  · cases e
def bLenS : MF := b1 fun t S => match asS t with
  | some z => if z.length ≤ sizeLine then some (.d (.int z.length), S) else none
  | none => none
def bI1 (g : Int → Int) : MF := b1 fun t S => (asI t).map fun i => (.d (.int (g i)), S)
def bI2 (g : Int → Int → Int) : MF := b2 fun t u S => match asI t, asI u with
  | some i, some j => some (.d (.int (g i j)), S)
  | _, _ => none
theorem i1_rd {K : Frg} {g : Int → Int} {vs : List V} {H : Hp} {Q : VK} (h : rF K (bI1 g) vs H Q) : ∃ i, vs = [.int i] ∧ Q (.int (g i)) H := by
  obtain ⟨F, ad, S, ts, t, S', r, rs, e, k⟩ := h
  have e2 := b1_some (show b1 _ ts S = some (t, S') from e)
  clear e
  obtain ⟨_, rfl, e⟩ := e2
  obtain ⟨i, hi, e⟩ := Option.map_eq_some_iff.mp e
  cases e
  obtain ⟨x, rfl, rx⟩ := pair1 rs
  exact ⟨i, by rw [asI_ok hi rx], k F ad H _ (.refl r) (Rep.int _)⟩
theorem i2_rd {K : Frg} {g : Int → Int → Int} {vs : List V} {H : Hp} {Q : VK} (h : rF K (bI2 g) vs H Q) : ∃ i j, vs = [.int i, .int j] ∧ Q (.int (g i j)) H := by
  obtain ⟨F, ad, S, ts, t, S', r, rs, e, k⟩ := h
  have e2 := b2_some (show b2 _ ts S = some (t, S') from e)
  clear e
  obtain ⟨_, _, rfl, e⟩ := e2
  split at e
  · rename_i i j hi hj
    cases e
    obtain ⟨x, y, rfl, rx, ry⟩ := pair2 rs
    exact ⟨i, j, by rw [asI_ok hi rx, asI_ok hj ry], k F ad H _ (.refl r) (Rep.int _)⟩
  · cases e
abbrev bAbs : MF := bI1 fun i => if i < 0 then -i else i
abbrev bInt : MF := bI1 fun i => i
abbrev bMax2 : MF := bI2 fun i j => if j > i then j else i
abbrev bMin2 : MF := bI2 fun i j => if j < i then j else i
theorem f_abs : CallF X (.builtin "abs") bAbs := CallR.imp call_abs fun _ _ _ h => i1_rd h
theorem f_int : CallF X (.type "int") bInt := CallR.imp call_int1 fun _ _ _ h => .inl (i1_rd h)
theorem f_max2 (hc : X.calm = true) : CallF X (.builtin "max") bMax2 := CallR.imp (call_max2 hc) fun _ _ _ h => i2_rd h
/-- list(xs) -/
def bList : MF := b1 fun t S => (seqOf t S).map fun p => (.own S.length, S ++ [.lst p.2])
theorem f_list : CallF X (.type "list") bList := by
  refine CallR.imp call_list_of fun vs H Q ⟨F, ad, S, ts, t, S', r, rs, e, k⟩ => ?_
  have e2 := b1_some (show b1 _ ts S = some (t, S') from e)
  clear e
  obtain ⟨_, rfl, e⟩ := e2
  obtain ⟨q, hq, e⟩ := Option.map_eq_some_iff.mp e
  cases e
  obtain ⟨x, rfl, rx⟩ := pair1 rs
  obtain ⟨b, us⟩ := q
  obtain ⟨a, ws, rfl, _, q1, q2, rr⟩ := seqOf_ok r rx hq
  refine ⟨a, ws, rfl, ?_, fun l hl => ?_⟩
  · cases b with
    | false => exact .inl (q2 rfl)
    | true => exact .inr (q1 rfl)
  · obtain ⟨g2, q2⟩ := new_lst r hl rr
    exact k _ _ _ _ g2 q2
/-- tuple(xs) -/
def bTuple : MF := b1 fun t S => match seqOf t S with
  | some (true, ts) => (toDs ts S).map fun q => (.d (.tup q.1), q.2)
  | some (false, ts) => (toDs ts S).map fun q => (.d (.tup q.1), q.2)
  | none => none
theorem f_tuple : CallF X (.type "tuple") bTuple := by
  refine CallR.imp call_tuple_of fun vs H Q ⟨F, ad, S, ts, t, S', r, rs, e, k⟩ => ?_
  have e2 := b1_some (show b1 _ ts S = some (t, S') from e)
  clear e
  obtain ⟨_, rfl, e⟩ := e2
  split at e
  · rename_i us hq
    obtain ⟨⟨ds, S1⟩, e1, e⟩ := Option.map_eq_some_iff.mp e
    cases e
    obtain ⟨x, rfl, rx⟩ := pair1 rs
    obtain ⟨a, ws, rfl, qF, q1, q2, rr⟩ := seqOf_ok r rx hq
    obtain ⟨F2, g2, rd⟩ := toDs_ok r rr e1
    exact ⟨a, ws, rfl, .inr ⟨q1 rfl, k F2 ad H _ g2.go (Rep.tup (SqT.sub g2.st.fsub (qF rfl)) rd)⟩⟩
  · rename_i us hq
    obtain ⟨⟨ds, S1⟩, e1, e⟩ := Option.map_eq_some_iff.mp e
    cases e
    obtain ⟨x, rfl, rx⟩ := pair1 rs
    obtain ⟨a, ws, rfl, qF, q1, q2, rr⟩ := seqOf_ok r rx hq
    refine ⟨a, ws, rfl, .inl ⟨q2 rfl, fun l hl => ?_⟩⟩
    obtain ⟨F2, g2, rd⟩ := toDs_ok r rr e1
    obtain ⟨r3, s3⟩ := g2.rel.newF (o := .tup ws) hl
    exact k _ ad _ _ ⟨g2.st.trans s3, r3⟩ (Rep.tup (.of upd_same) (rd.mono s3.fsub))
  · cases e
/-- the ints of a list -/
def intsOf (t : T) (S : Cs) : Option (List Int) := match seqOf t S with
  | some (false, ts) => mapO asI ts
  | _ => none
theorem mapO_int {K : Frg} {F : Hp} {ad : List Addr} : ∀ {vs : List V} {ts : List T} {ns : List Int}, RepTs K F ad vs ts → mapO asI ts = some ns → vs = ns.map V.int
  | _, _, _, .nil, e => by unfold mapO at e; cases e; rfl
  | _, _, _, .cons q r, e => by
    unfold mapO at e
    obtain ⟨p1, e1, e⟩ := bind_some e
    obtain ⟨pr, e2, e⟩ := Option.map_eq_some_iff.mp e
    cases e
    rw [asI_ok e1 q, mapO_int r e2]
    rfl
theorem intsOf_ok {K : Frg} {F : Hp} {ad : List Addr} {S : Cs} {H : Hp} {v : V} {t : T} {ns : List Int} (g : RelS K F ad S H) (r : RepT K F ad v t) (e : intsOf t S = some ns) : ∃ a, v = .ref a ∧ SqL K H a (ns.map V.int) := by
  unfold intsOf at e
  split at e
  · rename_i ts h
    obtain ⟨a, vs, rfl, _, _, q, rr⟩ := seqOf_ok g r h
    have e2 := mapO_int rr e
    rw [← e2]
    exact ⟨a, rfl, q rfl⟩
  · cases e
def bSum : MF := b1 fun t S => (intsOf t S).map fun ns => (.d (.int ns.sum), S)
/-- the greatest of a list that is not empty -/
def maxI : List Int → Int
  | [] => 0
  | [a] => a
  | a :: b :: l => max a (maxI (b :: l))
def minI : List Int → Int
  | [] => 0
  | [a] => a
  | a :: b :: l => min a (minI (b :: l))
theorem minI_mem : ∀ (l : List Int), l ≠ [] → minI l ∈ l
  | [a], _ => by simp [minI]
  | a :: b :: l, _ => by
    have h := minI_mem (b :: l) (by simp)
    show min a (minI (b :: l)) ∈ a :: b :: l
    rcases Int.le_total a (minI (b :: l)) with q | q
    · rw [Int.min_eq_left q]; exact List.mem_cons_self
    · rw [Int.min_eq_right q]; exact List.mem_cons_of_mem _ h
theorem minI_le : ∀ (l : List Int) (y : Int), y ∈ l → minI l ≤ y
  | [a], y, h => by simp at h; rw [h]; exact Int.le_refl _
  | a :: b :: l, y, h => by
    show min a (minI (b :: l)) ≤ y
    rcases List.mem_cons.mp h with rfl | h
    · exact Int.min_le_left _ _
    · exact Int.le_trans (Int.min_le_right _ _) (minI_le (b :: l) y h)
def bMax : MF := b1 fun t S => match intsOf t S with
  | some (n :: ns) => some (.d (.int (maxI (n :: ns))), S)
  | _ => none
def bMin : MF := b1 fun t S => match intsOf t S with
  | some (n :: ns) => some (.d (.int (minI (n :: ns))), S)
  | _ => none
theorem f_min (hc : X.calm = true) : CallF X (.builtin "min") bMin := by
  refine CallR.imp (cr_min hc) fun vs H Q ⟨F, ad, S, ts, t, S', r, rs, e, k⟩ => ?_
  have e2 := b1_some (show b1 _ ts S = some (t, S') from e)
  clear e
  obtain ⟨_, rfl, e⟩ := e2
  split at e
  · rename_i n ns hq
    cases e
    obtain ⟨x, rfl, rx⟩ := pair1 rs
    obtain ⟨a, rfl, q⟩ := intsOf_ok r rx hq
    refine ⟨a, n :: ns, rfl, q, by simp, fun m hm hy => ?_⟩
    have e : m = minI (n :: ns) := Int.le_antisymm (hy _ (minI_mem _ (by simp))) (minI_le _ _ hm)
    rw [e]
    exact k F ad H _ (.refl r) (Rep.int _)
  · cases e
/-! ### isinstance with a built-in class -/
def tyD (t : T) (S : Cs) : Option String := match deref t S with
  | .d .non => some "NoneType"
  | .d (.bl _) => some "bool"
  | .d (.int _) => some "int"
  | .d (.str _) => some "str"
  | .d (.tup _) => some "tuple"
  | .d (.lst _) => some "list"
  | .own p => (match S[p]? with
    | some (.lst _) => some "list"
    | _ => none)
  | _ => none
theorem SqT.tyX {K : Frg} {H : Hp} {a : Addr} {xs : List V} (h : SqT K H a xs) : TyX K H (.ref a) (.type "tuple") := by
  rcases h with (h | ⟨o, h⟩) | ⟨o, its, n, h, c, _⟩
  · exact .base (.tup h)
  · exact .fTuple h
  · exact .kTuple h c
theorem tyD_ok {K : Frg} {F : Hp} {ad : List Addr} {S : Cs} {H : Hp} {v : V} {t : T} {n : String} (g : RelS K F ad S H) (r : RepT K F ad v t) (e : tyD t S = some n) : TyX K H v (.type n) := by
  have r := deref_ok g r
  unfold tyD at e
  split at e
  · rename_i h; rw [h] at r; cases e; rw [r.non]; exact .base .non
  · rename_i h; rw [h] at r; cases e; rw [r.bl]; exact .base (.bl _)
  · rename_i h; rw [h] at r; cases e; rw [r.int]; exact .base (.int _)
  · rename_i h; rw [h] at r; cases e; rw [r.str]; exact .base (.str _)
  · rename_i ds h; rw [h] at r; cases e
    cases (show Rep K F v (.tup ds) from r) with
    | tup q rs => exact SqT.tyX (SqT.sub g.sub q)
  · rename_i ds h; rw [h] at r; cases e
    cases (show Rep K F v (.lst ds) from r) with
    | lst q rs => exact .base (.lst (g.sub _ _ q))
  · rename_i p h
    rw [h] at r
    obtain ⟨a, hp, rfl⟩ := r
    split at e
    · rename_i us h1
      cases e
      obtain ⟨_, vs, hH, rs⟩ := g.cells p a _ hp h1
      exact .base (.lst hH)
    · cases e
  · cases e
/-- isinstance's answer for two built-in classes -/
def kit (a b : String) : Option Bool :=
  if a = b then some true
  else if (a ∈ ["NoneType", "bool", "int", "str", "tuple", "list"]) ∧ (b ∈ ["bool", "int", "str", "tuple", "list"]) then some (decide (a = "bool" ∧ b = "int")) else none
theorem kit_ok {K : Frg} {a b : String} {r : Bool} (h : kit a b = some r) : PySem.W.kitOne K (.type a) (.type b) = some r := by
  unfold kit at h
  split at h
  · rename_i e
    cases h
    subst e
    refine kit_ty ?_
    unfold kitB
    rw [if_pos (by simp)]
  · split at h
    · rename_i n q
      cases h
      refine kit_ty ?_
      obtain ⟨qa, qb⟩ := q
      simp only [List.mem_cons, List.not_mem_nil, or_false] at qa qb
      rcases qa with rfl | rfl | rfl | rfl | rfl | rfl <;> rcases qb with rfl | rfl | rfl | rfl | rfl <;> first | exact absurd rfl n | decide +kernel
    · cases h
def bIsi : MF := b2 fun t u S => match u with
  | .d (.ty b) => (tyD t S).bind fun a => (kit a b).map fun r => (.d (.bl r), S)
  | _ => none
theorem f_isi : CallF X (.builtin "isinstance") bIsi := by
  refine CallR.imp call_isi fun vs H Q ⟨F, ad, S, ts, t, S', r, rs, e, k⟩ => ?_
  have e2 := b2_some (show b2 _ ts S = some (t, S') from e)
  clear e
  obtain ⟨_, _, rfl, e⟩ := e2
  split at e
  · rename_i b
    obtain ⟨a, ea, e⟩ := bind_some e
    obtain ⟨c, ec, e⟩ := Option.map_eq_some_iff.mp e
    cases e
    obtain ⟨x, y, rfl, rx, ry⟩ := pair2 rs
    cases (show Rep _ F y (.ty b) from ry)
    exact ⟨x, .ty b, .type a, .type b, c, rfl, .ty b, tyD_ok r rx ea, kit_ok ec, k F ad H _ (.refl r) (Rep.bl _)⟩
  · cases e
/-! ### any, all -/
def asB : T → Option Bool
  | .d (.bl b) => some b
  | _ => none
def bsOf (t : T) (S : Cs) : Option (List Bool) := match seqOf t S with
  | some (false, ts) => mapO asB ts
  | _ => none
theorem asB_ok {K : Frg} {F : Hp} {ad : List Addr} {v : V} {t : T} {i : Bool} (e : asB t = some i) (r : RepT K F ad v t) : v = .bl i := by
  unfold asB at e
  split at e
  · cases e; exact r.bl
  · cases e
def bAny : MF := b1 fun t S => (bsOf t S).map fun ns => (.d (.bl (ns.any id)), S)
def bAll : MF := b1 fun t S => (bsOf t S).map fun ns => (.d (.bl (ns.all id)), S)
end
end FL
/-! FL: methods of lists, targets, statements, loops, comprehensions, defs. -/
namespace FL
open PySem PySem.Spec PyProof.Rows L2
section
variable {X : Cx}
/-! ### sorted of ints -/
def srt (ns : List Int) : List Int := ns.mergeSort (fun a b => decide (a ≤ b))
theorem srt_perm (ns : List Int) : (srt ns).Perm ns := List.mergeSort_perm _ _
theorem srt_le (ns : List Int) : (srt ns).Pairwise (· ≤ ·) := by
  have h := List.pairwise_mergeSort (le := fun a b : Int => decide (a ≤ b)) (fun a b c h1 h2 => by simp at *; omega) (fun a b => by simp; omega) ns
  exact h.imp fun h => by simpa using h
def bSortI : MF := b1 fun t S => (intsOf t S).map fun ns => (.own S.length, S ++ [.lst ((srt ns).map fun i => .d (.int i))])
/-! ### methods of lists -/
abbrev NF := T → List T → Cs → Option (T × Cs)
def rN (K : Frg) (g : NF) : V → List V → Hp → VK → Prop := fun x vs H Q => ∃ F ad S tx ts t S', RelS K F ad S H ∧ RepT K F ad x tx ∧ RepTs K F ad vs ts ∧ g tx ts S = some (t, S') ∧
  ∀ F' ad' H' v, Go K F ad H F' ad' H' S' → RepT K F' ad' v t → Q v H'
def MtF (X : Cx) (id : String) (g : NF) : Prop := MtR X id (rN X.K g)
def isLst (t : T) (S : Cs) : Bool := match seqOf t S with
  | some (false, _) => true
  | _ => false
def cMt (g : NF) (fo : EF) (fs : AF) : EF := fun σ S => (fo σ S).bind fun p => if isLst p.1 p.2 = true then (fs σ p.2).bind fun q => g p.1 q.1 q.2 else none
section
variable {g : NF} {fo : EF} {fs : AF} {o e : Expr} {es : List Expr} {name : Str} {id : String} {apos cpos : Pos}
end
/-- what an own list holds -/
def ownOf (t : T) (S : Cs) : Option (Nat × List T) := match t with
  | .own p => (match S[p]? with
    | some (.lst ts) => some (p, ts)
    | _ => none)
  | _ => none
def mAppend : NF := fun x ts S => match ts with
  | [u] => (match ownOf x S with
    | some (p, us) => if us.length < sizeLine then some (.d .non, S.set p (.lst (us ++ [u]))) else none
    | none => none)
  | _ => none
def mExtend : NF := fun x ts S => match ts with
  | [u] => (match ownOf x S, lstOf u S with
    | some (p, us), some ws => if us.length + ws.length ≤ sizeLine then some (.d .non, S.set p (.lst (us ++ ws))) else none
    | _, _ => none)
  | _ => none
/-- xs.pop() -/
def mPop : NF := fun x ts S => match ts with
  | [] => (match ownOf x S with
    | some (p, us) => (us[us.length - 1]?).map fun u => (u, S.set p (.lst us.dropLast))
    | none => none)
  | _ => none
theorem Paired.dropLast {α β : Type} {R : α → β → Prop} {vs : List α} {ds : List β} (r : Paired R vs ds) : Paired R vs.dropLast ds.dropLast := by
  rw [List.dropLast_eq_take, List.dropLast_eq_take, Paired.length r]
  exact Paired.take _ r
/-- xs.pop(i) -/
def mPopAt : NF := fun x ts S => match ts with
  | [i] => (match ownOf x S, asI i with
    | some (p, us), some i => (match seqIndex? i us.length with
      | some k => if -(2 ^ 63) ≤ i ∧ i < 2 ^ 63 then (us[k]?).map fun u => (u, S.set p (.lst (us.eraseIdx k))) else none
      | none => none)
    | _, _ => none)
  | _ => none
theorem Paired.eraseIdx {α β : Type} {R : α → β → Prop} : ∀ {vs : List α} {ds : List β} (n : Nat), Paired R vs ds → Paired R (vs.eraseIdx n) (ds.eraseIdx n)
  | _, _, _, .nil => .nil
  | _, _, 0, .cons _ t => t
  | _, _, n + 1, .cons q t => .cons q (Paired.eraseIdx n t)
/-! ### targets -/
inductive Itm where
  | one (t : T) | tup (ts : List T)
def ItmOk (K : Frg) (F : Hp) (ad : List Addr) (v : V) : Itm → Prop
  | .one t => RepT K F ad v t
  | .tup ts => ∃ a vs, v = .ref a ∧ SqT K F a vs ∧ RepTs K F ad vs ts
theorem Dif.refl (is : List Nat) (τ : L2.St) : Dif is τ τ := ⟨rfl, fun _ _ => rfl⟩
abbrev GF := Itm → Sg → Cs → Option (Sg × Cs)
abbrev GsF := List T → Sg → Cs → Option (Sg × Cs)
def tG (K : Frg) (is : List Nat) (g : GF) : TG := fun v τ H Q => ∃ F ad σ S it σ' S', RelS K F ad S H ∧ SlotsOk K F ad σ τ ∧ ItmOk K F ad v it ∧ g it σ S = some (σ', S') ∧
  ∀ τ' H' F' ad', Go K F ad H F' ad' H' S' → SlotsOk K F' ad' σ' τ' → Dif is τ τ' → Q τ' H'
def tGs (K : Frg) (is : List Nat) (g : GsF) : TGs := fun vs τ H Q => ∃ F ad σ S ts σ' S', RelS K F ad S H ∧ SlotsOk K F ad σ τ ∧ RepTs K F ad vs ts ∧ g ts σ S = some (σ', S') ∧
  ∀ τ' H' F' ad', Go K F ad H F' ad' H' S' → SlotsOk K F' ad' σ' τ' → Dif is τ τ' → Q τ' H'
def FG (X : Cx) (tg : Expr) (is : List Nat) (g : GF) : Prop := PG X tg (tG X.K is g)
def FGs (X : Cx) (tg : List Expr) (is : List Nat) (g : GsF) : Prop := PGs X tg (tGs X.K is g)
def gN (i : Nat) : GF := fun it σ S => match it with
  | .one t => some (σ.set i (some t), S)
  | .tup ts => (toDs ts S).map fun q => (σ.set i (some (.d (.tup q.1))), q.2)
theorem set_dif (τ : L2.St) (i : Nat) (v : V) : Dif [i] τ (τ.set i (some v)) := ⟨by simp, fun j h => by rw [List.getElem?_set_ne (fun e => h (by simp [e]))]⟩
def gNil : GsF := fun ts σ S => match ts with
  | [] => some (σ, S)
  | _ => none
def gCons (g : GF) (gs : GsF) : GsF := fun ts σ S => match ts with
  | t :: r => (g (.one t) σ S).bind fun q => gs r q.1 q.2
  | [] => none
/-- the parts of an item that is a tuple -/
def partsOf (it : Itm) (S : Cs) : Option (List T) := match it with
  | .tup ts => some ts
  | .one t => (asT t S).map fun ds => ds.map .d
def gT (n : Nat) (gs : GsF) : GF := fun it σ S => (partsOf it S).bind fun ts => if ts.length = n then gs ts σ S else none
/-! ### statements -/
def cSeq (f g : SF) : SF := fun σ S => (f σ S).bind fun o => match o.1 with
  | .nx => g o.2.1 o.2.2
  | _ => some o
def cNx : SF := fun σ S => some (.nx, σ, S)
theorem Fin.go {K : Frg} {F F1 : Hp} {ad ad1 : List Addr} {H H1 : Hp} {S1 : Cs} {D : Ends} {o : Fl × Sg × Cs} (f : Fin K F ad H D o) (g : Go K F ad H F1 ad1 H1 S1) : Fin K F1 ad1 H1 D o := by
  obtain ⟨fl, σ, S⟩ := o
  cases fl with
  | nx => exact fun F' ad' H' τ' g' so => f F' ad' H' τ' (g.trans g') so
  | bk => exact fun F' ad' H' τ' g' so => f F' ad' H' τ' (g.trans g') so
  | ct => exact fun F' ad' H' τ' g' so => f F' ad' H' τ' (g.trans g') so
  | rt t => exact fun F' ad' H' v g' rv => f F' ad' H' v (g.trans g') rv
section
variable {st : Stmt} {rest : List Stmt} {f g : SF} {e : Expr} {fe : EF} {pos : Pos}
def cBk : SF := fun σ S => some (.bk, σ, S)
def cCt : SF := fun σ S => some (.ct, σ, S)
/-- never reached -/
def cNever : SF := fun _ _ => none
def cDrop (f : EF) : SF := fun σ S => (f σ S).map fun p => (.nx, σ, p.2)
def cRet (f : EF) : SF := fun σ S => (f σ S).map fun p => (.rt p.1, σ, p.2)
def cRetN : SF := fun σ S => some (.rt (.d .non), σ, S)
def cIfS (c : BF) (f g : SF) : SF := fun σ S => (c σ S).bind fun p => if p.1 = true then f σ p.2 else g σ p.2
def cSet (i : Nat) (f : EF) : SF := fun σ S => (f σ S).map fun p => (.nx, σ.set i (some p.1), p.2)
/-- a, b = e -/
def cAsgT (g : GF) (f : EF) : SF := fun σ S => (f σ S).bind fun p => (g (.one p.1) σ p.2).map fun q => (.nx, q.1, q.2)
/-- o[i] = e -/
def cSub (fo fi f : EF) : SF := fun σ S => (f σ S).bind fun p => (fo σ p.2).bind fun q => (fi σ q.2).bind fun u => match ownOf q.1 u.2, asI u.1 with
  | some (k, ts), some i => (ixN ts.length i).map fun j => (.nx, σ, u.2.set k (.lst (ts.set j p.1)))
  | _, _ => none
/-- x op= e -/
def cAug (i : Nat) (g : OF) (f : EF) : SF := fun σ S => (cV i σ S).bind fun p => (f σ p.2).bind fun q => (g p.1 q.1 q.2).map fun u => (.nx, σ.set i (some u.1), u.2)
end
end
end FL
/-! FL: loops, comprehensions, defs. -/
namespace FL
open PySem PySem.Spec PyProof.Rows L2
open Classical in
section
variable {X : Cx}
abbrev Gs := List (Nat × List T)
/-- the lists that are walked stand as they stood -/
def gOk : Gs → Cs → Prop
  | [], _ => True
  | g :: r, S => S[g.1]? = some (.lst g.2) ∧ gOk r S
abbrev IF := Sg → Cs → Option (List Itm × Gs × Cs)
def IterOk (K : Frg) (F0 : Hp) (ad0 : List Addr) (H0 : Hp) (J : It) (items : List Itm) (gs : Gs) : Prop := ∀ F ad S H, Step F0 ad0 H0 F ad H → RelS K F ad S H → gOk gs S → ∀ i : Nat,
  (items.length ≤ i → J.stop i H) ∧ (∀ it, items[i]? = some it → J.go i H ∧ ∀ x H', J.yld i H x H' → ∃ F', Go K F ad H F' ad H' S ∧ ItmOk K F' ad x it)
def tI (K : Frg) (f : IF) : TI := fun τ H R => ∃ F ad σ S items gs S', RelS K F ad S H ∧ SlotsOk K F ad σ τ ∧ f σ S = some (items, gs, S') ∧
  ∀ F' ad' H' J, Go K F ad H F' ad' H' S' → IterOk K F' ad' H' J items gs → R J H'
def FI (X : Cx) (tg iter : Expr) (f : IF) : Prop := PI X tg iter (tI X.K f)
/-! ### what is walked -/
def iSeq (K : Frg) (tl : TE) : TI := fun σ H R => tl σ H fun x H1 => (∃ a, x = .ref a ∧ (∃ xs, SqL K H1 a xs) ∧ R (Itl K a) H1) ∨ (∃ a, x = .ref a ∧ (∃ xs, SqT K H1 a xs) ∧ R (Itt K a) H1)
theorem pi_seq {tg l : Expr} {tl : TE} (hl : PE X l tl) : PI X tg l (iSeq X.K tl) := by
  refine ⟨fun pins s σ H R I h => ?_⟩
  refine thn (hl.run pins s σ H _ I h) fun v s1 ⟨x, H1, I1, r1, q1⟩ => ?_
  rcases q1 with ⟨a, e, ⟨xs, hq⟩, q⟩ | ⟨a, e, ⟨xs, hq⟩, q⟩
  · subst e
    cases r1
    obtain ⟨its, rv, p, hz⟩ := I1.list hq
    refine wpAny_pyIter_list p.isList ?_
    refine ⟨s1.heap.objs.size, [s1.heap.objs.size], _, _, H1, rfl, I1.kept (t' := s1.toks) fun b o e => Heap.get?_push_of_some _ e, turn_list a _, ⟨_, Heap.get?_push_size _ rfl, rfl, rfl⟩, fun b hb => ?_, q⟩
    have e : b = s1.heap.objs.size := by simpa using hb
    subst e
    exact I1.fpOk (Nat.le_refl _) (I1.hok.fresh (Nat.le_refl _))
  · subst e
    cases r1
    obtain ⟨its, rv, p, hz⟩ := I1.tuple hq
    refine wpAny_pyIter_tuple (show s1.heap.IsTuple a its.toArray from p) ?_
    refine ⟨s1.heap.objs.size, [s1.heap.objs.size], _, _, H1, rfl, I1.kept (t' := s1.toks) fun b o e => Heap.get?_push_of_some _ e, turn_tuple a _, ⟨_, Heap.get?_push_size _ rfl, rfl, rfl⟩, fun b hb => ?_, q⟩
    have e : b = s1.heap.objs.size := by simpa using hb
    subst e
    exact I1.fpOk (Nat.le_refl _) (I1.hok.fresh (Nat.le_refl _))
/-- a sequence and what must stand while it is walked -/
def seqG (t : T) (S : Cs) : Option (Bool × List T × Gs) := match deref t S with
  | .d (.tup ds) => some (true, ds.map .d, [])
  | .d (.lst ds) => some (false, ds.map .d, [])
  | .d (.scr ns) => some (false, ns.map fun i => .d (.int i), [])
  | .own p => (match S[p]? with
    | some (.lst ts) => some (false, ts, [(p, ts)])
    | _ => none)
  | _ => none
def iE (f : EF) : IF := fun σ S => (f σ S).bind fun p => (seqG p.1 p.2).map fun q => (q.2.1.map .one, q.2.2, p.2)
/-- lo, lo + 1, .. below hi -/
def rangeL (lo hi : Int) : List Int := (List.range (hi - lo).toNat).map fun i => lo + (i : Nat)
def inR (i : Int) : Prop := -(2 ^ 62) ≤ i ∧ i < 2 ^ 62
instance (i : Int) : Decidable (inR i) := by unfold inR; infer_instance
def itR (lo hi : Int) : List Itm := (rangeL lo hi).map fun i => .one (.d (.int i))
def iR (lo hi : Int) (S : Cs) : Option (List Itm × Gs × Cs) := if inR lo ∧ inR hi then some (itR lo hi, [], S) else none
def iRange1 (fs : AF) : IF := fun σ S => (fs σ S).bind fun p => match p.1 with
  | [t] => (asI t).bind fun j => iR 0 j p.2
  | _ => none
def iRange2 (fs : AF) : IF := fun σ S => (fs σ S).bind fun p => match p.1 with
  | [t, u] => (match asI t, asI u with
    | some i, some j => iR i j p.2
    | _, _ => none)
  | _ => none
/-- enumerate(a list) -/
def iEnm (fs : AF) : IF := fun σ S => (fs σ S).bind fun p => match p.1 with
  | [t] => (match seqG t p.2 with
    | some (false, ts, gs) => some ((ts.mapIdx fun i u => .tup [.d (.int (i : Nat)), u]), gs, p.2)
    | _ => none)
  | _ => none
/-! ### for -/
noncomputable def loopF (g : GF) (body : SF) (cl : List Nat) (gs : Gs) : List Itm → SF
  | [], σ, S => if gOk gs S then some (.nx, σ, S) else none
  | t :: ts, σ, S => if gOk gs S then (g t σ S).bind fun q => (body q.1 q.2).bind fun o => match o.1 with
    | .nx => loopF g body cl gs ts (forget cl o.2.1) o.2.2
    | .ct => loopF g body cl gs ts (forget cl o.2.1) o.2.2
    | .bk => some (.nx, forget cl o.2.1, o.2.2)
    | .rt t => some (.rt t, o.2.1, o.2.2) else none
noncomputable def cFor (fi : IF) (g : GF) (body : SF) (cl : List Nat) : SF := fun σ S => (fi σ S).bind fun p => loopF g body cl p.2.1 p.1 (forget cl σ) p.2.2
/-! ### while -/
/-- at most n turns -/
def loopW (c : BF) (body : SF) (cl : List Nat) : Nat → SF
  | 0, _, _ => none
  | n + 1, σ, S => (c σ S).bind fun p => if p.1 = true then (body σ p.2).bind fun o => match o.1 with
      | .nx => loopW c body cl n (forget cl o.2.1) o.2.2
      | .ct => loopW c body cl n (forget cl o.2.1) o.2.2
      | .bk => some (.nx, forget cl o.2.1, o.2.2)
      | .rt t => some (.rt t, o.2.1, o.2.2)
    else some (.nx, σ, p.2)
end
end FL
/-! FL: comprehensions, defs. -/
namespace FL
open PySem PySem.Spec PyProof.Rows L2
open Classical in
section
variable {X : Cx}
/-! ### [e for x in xs if t] -/
noncomputable def compL (g : GF) (t : BF) (f : EF) (σ : Sg) (gs : Gs) : List Itm → Cs → Option (List T × Cs)
  | [], S => if gOk gs S then some ([], S) else none
  | it :: r, S => if gOk gs S then (g it σ S).bind fun q => (t q.1 q.2).bind fun b => if b.1 = true then (f q.1 b.2).bind fun u => (compL g t f σ gs r u.2).map fun w => (u.1 :: w.1, w.2)
      else compL g t f σ gs r b.2 else none
noncomputable def cComp (fi : IF) (g : GF) (t : BF) (f : EF) (vs : List Nat) : EF := fun σ S => (fi σ S).bind fun p => (compL g t f (forget vs σ) p.2.1 p.1 p.2.2).bind fun q => if q.1.length ≤ sizeLine then some (.own q.2.length, q.2 ++ [.lst q.1]) else none
def FTs (X : Cx) (ifs : List Expr) (f : BF) : Prop := PTs X ifs (tB X.K f)
def cYes : BF := fun _ S => some (true, S)
theorem wipe_get (τ : L2.St) : ∀ (vs : List Nat) (j : Nat), (wipe τ vs)[j]? = if j ∈ vs then (if j < τ.length then some none else none) else τ[j]?
  | [], j => by simp [wipe]
  | v :: vs, j => by
    unfold wipe
    rw [List.getElem?_set, wipe_length, wipe_get τ vs j]
    by_cases h : v = j
    · subst h; simp
    · rw [if_neg h]
      have h' : ¬ j = v := fun e => h e.symm
      simp [h']
theorem wipe_dif {τ τ' : L2.St} {vs is : List Nat} (d : Dif is (wipe τ vs) τ') (h : ∀ i ∈ is, i ∈ vs) : wipe τ' vs = wipe τ vs := by
  apply List.ext_getElem?
  intro j
  rw [wipe_get, wipe_get]
  have hl : τ'.length = τ.length := by rw [d.1, wipe_length]
  by_cases hj : j ∈ vs
  · rw [if_pos hj, if_pos hj, hl]
  · rw [if_neg hj, if_neg hj, d.2 j (fun z => hj (h j z)), wipe_get, if_neg hj]
theorem slots_wipe {K : Frg} {F : Hp} {ad : List Addr} {τ : L2.St} : ∀ {vs : List Nat} {σ : Sg}, SlotsOk K F ad σ τ → SlotsOk K F ad (forget vs σ) (wipe τ vs) := by
  intro vs σ h
  have key : ∀ (vs : List Nat) (σ : Sg), (forget vs σ).length = σ.length ∧ ∀ j t, (forget vs σ)[j]? = some (some t) → σ[j]? = some (some t) ∧ j ∉ vs := by
    intro vs
    induction vs with
    | nil => intro σ; exact ⟨rfl, fun j t e => ⟨e, by simp⟩⟩
    | cons v vs ih =>
      intro σ
      obtain ⟨i1, i2⟩ := ih (σ.set v none)
      refine ⟨by show (forget vs (σ.set v none)).length = _; rw [i1, List.length_set], fun j t e => ?_⟩
      obtain ⟨e1, e2⟩ := i2 j t e
      rw [List.getElem?_set] at e1
      by_cases hv : v = j
      · subst hv
        rw [if_pos rfl] at e1
        by_cases hl : v < σ.length
        · rw [if_pos hl] at e1; cases e1
        · rw [if_neg hl] at e1; cases e1
      · rw [if_neg hv] at e1
        exact ⟨e1, fun z => (List.mem_cons.mp z).elim (fun z => hv z.symm) e2⟩
  obtain ⟨k1, k2⟩ := key vs σ
  refine ⟨by rw [k1, wipe_length]; exact h.1, fun i t e => ?_⟩
  obtain ⟨e1, e2⟩ := k2 i t e
  obtain ⟨v, h1, h2⟩ := h.2 i t e1
  exact ⟨v, by rw [wipe_get, if_neg e2]; exact h1, h2⟩
/-- the reading of a comprehension -/
theorem lc_ok {fi : IF} {g : GF} {t : BF} {f : EF} {is vs : List Nat} {τ : L2.St} {H : Hp} {Q : VK} (his : ∀ i ∈ is, i ∈ vs) (h : tE X.K (cComp fi g t f vs) τ H Q) : tLc (tI X.K fi) (tG X.K is g) (tB X.K t) (tE X.K f) vs τ H Q := by
  obtain ⟨F, ad, σ, S, o, S', r, so, e, k⟩ := h
  obtain ⟨⟨items, gs, S1⟩, e1, e⟩ := bind_some e
  obtain ⟨⟨us, S2⟩, e2, e⟩ := bind_some e
  simp only at e
  split at e
  case isFalse => cases e
  rename_i hz
  cases e
  refine ⟨F, ad, σ, S, items, gs, S1, r, so, e1, fun F1 ad1 H1 J g1 hJ D hD => ?_⟩
  have F1D : F1 D = none := g1.rel.fresh hD
  have r0 : RelS X.K F1 ad1 S1 (upd H1 D (.lst [])) := ⟨fun b o hb => by rw [upd_ne (ne_of_none hb F1D)]; exact g1.rel.sub b o hb, g1.rel.nd, g1.rel.len, fun p a c i1 i2 => by
    have z := g1.rel.cells p a c i1 i2
    have na : a ≠ D := fun e => by
      obtain ⟨o, ho⟩ := z.there
      rw [e, hD] at ho; cases ho
    cases c with
    | lst ts => obtain ⟨n, ws, hh, q⟩ := z; exact ⟨n, ws, by rw [upd_ne na]; exact hh, q⟩
    | ins c fs => obtain ⟨n, dx, fvs, hh, q⟩ := z; exact ⟨n, dx, fvs, by rw [upd_ne na]; exact hh, q⟩
    | frz d => obtain ⟨q, o, hh⟩ := z; exact ⟨q, o, by rw [upd_ne na]; exact hh⟩⟩
  have st0 : Step F1 ad1 H1 F1 ad1 (upd H1 D (.lst [])) := ⟨fun _ _ h => h, fun _ _ h => .inl h, ⟨[], by simp, fun _ h => by simp at h⟩, fun b o h _ => by rw [upd_ne (ne_of_none h hD)]; exact h, fun b h => by
      by_cases hb : b = D
      · rw [hb]; exact hD
      · rw [upd_ne hb] at h; exact h⟩
  have D1 : D ∉ ad1 := fun z => by
    obtain ⟨o, ho⟩ := g1.rel.there z
    rw [hD] at ho; cases ho
  -- what stands at the beginning of turn i
  refine ⟨fun i m H => ∃ F ad S acc rest, RelS X.K F ad S H ∧ Step F1 ad1 H1 F ad H ∧ F D = none ∧ D ∉ ad ∧ (∃ vs', H D = some (.lst vs') ∧ RepTs X.K F ad vs' acc) ∧
      compL g t f (forget vs σ) gs (items.drop i) S = some (rest, S2) ∧ us = acc ++ rest ∧ m = items.length - i,
    ⟨items.length, F1, ad1, S1, [], us, r0, st0, F1D, D1, ⟨[], upd_same, .nil⟩, e2, rfl, rfl⟩, ?_⟩
  rintro i m H ⟨F, ad, S, acc, rest, r, st, FD, Dad, ⟨ws, hD', ra⟩, e, eu, rfl⟩
  have soW : ∀ {F ad H}, Step F1 ad1 H1 F ad H → SlotsOk X.K F ad (forget vs σ) (wipe τ vs) := fun st => SlotsOk.step st (slots_wipe (so.step g1.st))
  by_cases hlt : i < items.length
  · rw [List.drop_eq_getElem_cons hlt] at e
    unfold compL at e
    split at e
    case isFalse => cases e
    rename_i ok
    obtain ⟨q1, q2⟩ := hJ F ad S H st r ok i
    obtain ⟨go, yl⟩ := q2 items[i] (List.getElem?_eq_getElem hlt)
    obtain ⟨⟨σ2, S3⟩, e3, e⟩ := bind_some e
    obtain ⟨⟨b, S4⟩, e4, e⟩ := bind_some e
    simp only at e
    refine .inr ⟨go, fun H' => ∃ F ad S acc rest, RelS X.K F ad S H' ∧ Step F1 ad1 H1 F ad H' ∧ F D = none ∧ D ∉ ad ∧ (∃ vs', H' D = some (.lst vs') ∧ RepTs X.K F ad vs' acc) ∧
      compL g t f (forget vs σ) gs (items.drop (i + 1)) S = some (rest, S2) ∧ us = acc ++ rest, ?_, ?_⟩
    · rintro H' ⟨F', ad', S', acc', rest', h1, h2, h3, h4, h5, h6, h7⟩
      exact ⟨items.length - (i + 1), by omega, F', ad', S', acc', rest', h1, h2, h3, h4, h5, h6, h7, rfl⟩
    · intro x H' hy
      obtain ⟨F', g', ri⟩ := yl x H' hy
      -- D stays apart through steps
      have apart : ∀ {F ad H S F' ad' H'}, F D = none → D ∉ ad → H D ≠ none → Go X.K F ad H F' ad' H' S → F' D = none ∧ D ∉ ad' ∧ (∀ o, H D = some o → H' D = some o) := fun {F ad H S F' ad' H'} a b c g => by
        refine ⟨?_, ?_, fun o ho => g.st.keep D o ho b⟩
        · cases q : F' D with
          | none => rfl
          | some u =>
            rcases g.st.fnew D u q with z | z | z
            · rw [a] at z; cases z
            · exact absurd z b
            · exact absurd z c
        · obtain ⟨l, el, hl⟩ := g.st.adx
          rw [el]
          intro z
          rcases List.mem_append.mp z with z | z
          · exact b z
          · exact c (hl D z)
      refine ⟨F', ad, forget vs σ, S, items[i], σ2, S3, g'.rel, soW (st.trans g'.st), ri, e3, fun τ2 H2 F2 ad2 g2 so2 df => ⟨wipe_dif df his, ?_⟩⟩
      refine ⟨F2, ad2, σ2, S3, b, S4, g2.rel, so2, e4, fun F3 ad3 H3 g3 => ?_⟩
      have gg := (g'.trans g2).trans g3
      obtain ⟨a1, a2, a3⟩ := apart FD Dad (by rw [hD']; simp) gg
      cases b with
      | false =>
        rw [if_neg Bool.false_ne_true] at e
        refine iteF ?_
        exact ⟨F3, ad3, S4, acc, rest, g3.rel, st.trans gg.st, a1, a2, ⟨ws, a3 _ hD', RepTs.step gg.st ra⟩, e, eu⟩
      | true =>
        rw [if_pos rfl] at e
        refine iteT ?_
        obtain ⟨⟨u, S5⟩, e5, e⟩ := bind_some e
        obtain ⟨⟨ur, S6⟩, e6, e⟩ := Option.map_eq_some_iff.mp e
        cases e
        refine ⟨F3, ad3, σ2, S4, u, S5, g3.rel, so2.step g3.st, e5, fun F4 ad4 H4 v g4 rv => ?_⟩
        obtain ⟨b1, b2, b3⟩ := apart a1 a2 (by rw [a3 _ hD']; simp) g4
        have hD4 := b3 _ (a3 _ hD')
        have ra4 : RepTs X.K F4 ad4 ws acc := RepTs.step (gg.trans g4).st ra
        refine ⟨ws, hD4, ?_, ?_⟩
        · have : acc.length + 1 ≤ us.length := by rw [eu]; simp
          have := Paired.length ra4
          omega
        · have r5 : RelS X.K F4 ad4 S5 (upd H4 D (.lst (ws ++ [v]))) := ⟨fun b o hb => by rw [upd_ne (ne_of_none hb b1)]; exact g4.rel.sub b o hb, g4.rel.nd, g4.rel.len, fun p a c i1 i2 => by
            have z := g4.rel.cells p a c i1 i2
            have na : a ≠ D := fun e => b2 (e ▸ List.mem_of_getElem? i1)
            cases c with
            | lst ts => obtain ⟨n, zs, hh, q⟩ := z; exact ⟨n, zs, by rw [upd_ne na]; exact hh, q⟩
            | ins c fs => obtain ⟨n, dx, fvs, hh, q⟩ := z; exact ⟨n, dx, fvs, by rw [upd_ne na]; exact hh, q⟩
            | frz d => obtain ⟨q, o, hh⟩ := z; exact ⟨q, o, by rw [upd_ne na]; exact hh⟩⟩
          have st0 := (st.trans gg.st).trans g4.st
          have st5 : Step F1 ad1 H1 F4 ad4 (upd H4 D (.lst (ws ++ [v]))) := by
            refine ⟨st0.fsub, st0.fnew, st0.adx, fun b o hb hn => ?_, fun b hb => ?_⟩
            · rw [upd_ne (ne_of_none hb hD)]; exact st0.keep b o hb hn
            · by_cases hbD : b = D
              · rw [hbD]; exact hD
              · rw [upd_ne hbD] at hb; exact st0.alive b hb
          exact ⟨F4, ad4, S5, acc ++ [u], ur, r5, st5, b1, b2, ⟨_, upd_same, Paired.append ra4 (.cons rv .nil)⟩, e6, by rw [eu]; simp⟩
  · rw [List.drop_eq_nil_of_le (Nat.le_of_not_lt hlt)] at e
    unfold compL at e
    split at e
    case isFalse => cases e
    rename_i ok
    cases e
    obtain ⟨q1, q2⟩ := hJ F ad S2 H st r ok i
    refine .inl ⟨q1 (Nat.le_of_not_lt hlt), ?_⟩
    rw [List.append_nil] at eu
    subst eu
    have r9 : RelS X.K F (ad ++ [D]) (S2 ++ [.lst us]) H := r.adopt (c := .lst us) Dad fun l => ⟨FD, ws, hD', Paired.mapP ra fun _ t q => RepT.mono (fun _ _ h => h) t q⟩
    have st9 : Step F1 ad1 H1 F (ad ++ [D]) H := by
      have z := st
      obtain ⟨l, h1, h2⟩ := z.adx
      exact ⟨z.fsub, z.fnew, ⟨l ++ [D], by rw [h1, List.append_assoc], fun a ha => (List.mem_append.mp ha).elim (h2 a) fun q => by rw [List.mem_singleton.mp q]; exact hD⟩, z.keep, z.alive⟩
    exact k F (ad ++ [D]) H _ (g1.trans ⟨st9, r9⟩) ⟨D, by rw [← r.len, List.getElem?_append_right (Nat.le_refl _)]; simp, rfl⟩
/-! ### defs -/
def startT (n : Nat) (ts : List T) : Sg := ts.map some ++ List.replicate (n - ts.length) none
def fnM (n : Nat) (g : SF) : MF := fun ts S => (g (startT n ts) S).bind fun o => match o.1 with
  | .nx => some (.d .non, o.2.2)
  | .rt t => some (t, o.2.2)
  | _ => none
theorem start_ok {K : Frg} {F : Hp} {ad : List Addr} {N : List Str} {vs : List V} {ts : List T} (r : RepTs K F ad vs ts) : SlotsOk K F ad (startT N.length ts) (L2.start N vs) := by
  have hl := Paired.length r
  unfold startT L2.start
  refine ⟨by simp [hl], fun i t e => ?_⟩
  by_cases hi : i < ts.length
  · rw [List.getElem?_append_left (by simpa using hi), List.getElem?_map] at e
    obtain ⟨u, hu, e⟩ := Option.map_eq_some_iff.mp e
    cases e
    obtain ⟨v, hv, rv⟩ := Paired.get r hu
    exact ⟨v, by rw [List.getElem?_append_left (by rw [List.length_map, hl]; exact hi), List.getElem?_map, hv]; rfl, rv⟩
  · rw [List.getElem?_append_right (by simpa using hi)] at e
    rw [List.getElem?_replicate] at e
    split at e
    · cases e
    · cases e
end
section
variable {P : Program} {w : World} {K : Frg} {mg : Str → Option Value} {base : Heap} {x qual : Str} {params : Arguments} {body : List Stmt} {scope : Scope} {dvs : List V} {kws : List (Str × V)} {f : Addr} {fd : FuncData}
end
end FL
/-! FL: ranges, slices, truth, calls that give back what they took, xs[i] += e. -/
namespace FL
open PySem PySem.Spec PyProof.Rows L2
section
variable {X : Cx}
/-! ### ranges as values -/
def bRange2 : MF := b2 fun t u S => match asI t, asI u with
  | some i, some j => some (.d (.rng i j), S)
  | _, _ => none
def bRange1 : MF := b1 fun t S => (asI t).map fun j => (.d (.rng 0 j), S)
theorem vals_of : ∀ (ns : List Int) (us : List Value), us.length = ns.length → (∀ (i : Nat) u, us[i]? = some u → ∃ t, u = .int (ns.getD i 0) t) → Vals (ns.map V.int) us
  | [], [], _, _ => .nil
  | [], _ :: _, h, _ => by simp at h
  | _ :: _, [], h, _ => by simp at h
  | n :: ns, u :: us, h, f => .cons (by
      obtain ⟨t, e⟩ := f 0 u rfl
      exact ⟨t, by simpa using e⟩) (vals_of ns us (by simpa using h) fun i w hw => by
      obtain ⟨t, e⟩ := f (i + 1) w (by simpa using hw)
      exact ⟨t, by simpa using e⟩)
theorem rangeL_get (lo hi : Int) (i : Nat) (h : i < (hi - lo).toNat) : (rangeL lo hi).getD i 0 = lo + i := by
  unfold rangeL
  rw [List.getD_eq_getElem?_getD, List.getElem?_map, List.getElem?_range h]
  rfl
theorem cr_listRange (hc : X.calm = true) : CallR X (.type "list") (fun vs H Q => ∃ a lo hi, vs = [V.ref a] ∧ H a = some (.rng lo hi) ∧ inR lo ∧ inR hi ∧ hi - lo ≤ 2 ^ 24 ∧ ∀ p, H p = none → Q (.ref p) (upd H p (.lst ((rangeL lo hi).map V.int)))) := by
  intro pins s σ H vs us Q I r h
  obtain ⟨a, lo, hi, rfl, ha, ⟨h1, h2⟩, ⟨h3, h4⟩, hl, q⟩ := h
  obtain ⟨u1, rfl, ra⟩ := vals1 r
  obtain rfl : u1 = Value.ref a := ra
  obtain ⟨t, u, v, ho⟩ := I.hok a _ ha
  have hn : (hi - lo).toNat ≤ 2 ^ 24 := by omega
  refine call_list_range (n := (hi - lo).toNat) (I.ok.hd hc) (show IsRange s.heap a lo hi 1 t u v from ho) (small_one h1 h2 h3 h4) (by rw [rangeSize_one]; split <;> omega) hn fun h' tk acc' c' kk hS' it => ?_
  have len : (rangeL lo hi).length = (hi - lo).toNat := by unfold rangeL; simp
  refine ⟨.ref s.heap.objs.size, upd H s.heap.objs.size (.lst ((rangeL lo hi).map V.int)), I.laid kk (Nat.le_refl _) ⟨by rw [List.length_map, len]; exact Nat.le_trans hn (by decide), acc'.toList, c', ?_, by simpa using hS'⟩, rfl, q _ (I.hok.fresh (Nat.le_refl _))⟩
  refine vals_of _ _ (by rw [len]; simpa using it.1) fun i w hw => ?_
  have hw' : acc'[i]? = some w := by simpa using hw
  obtain ⟨t, e⟩ := it.2 i w hw'
  have hi' : i < (hi - lo).toNat := by rw [← it.1]; exact (Array.getElem?_eq_some_iff.mp hw').1
  exact ⟨t, by rw [e, rangeL_get lo hi i hi', Int.mul_one]⟩
def bListR : MF := b1 fun t S => match deref t S with
  | .d (.rng lo hi) => if inR lo ∧ inR hi ∧ hi - lo ≤ 2 ^ 24 then some (.own S.length, S ++ [.lst ((rangeL lo hi).map fun i => .d (.int i))]) else none
  | _ => none
theorem f_listR (hc : X.calm = true) : CallF X (.type "list") bListR := by
  refine CallR.imp (cr_listRange hc) fun vs H Q ⟨F, ad, S, ts, t, S', r, rs, e, k⟩ => ?_
  have e2 := b1_some (show b1 _ ts S = some (t, S') from e)
  clear e
  obtain ⟨_, rfl, e⟩ := e2
  split at e
  · rename_i lo hi hd
    split at e
    · rename_i hb
      cases e
      obtain ⟨x, rfl, rx⟩ := pair1 rs
      have rx := deref_ok r rx
      rw [hd] at rx
      cases (show Rep X.K F x (.rng lo hi) from rx) with
      | rng q =>
        refine ⟨_, lo, hi, rfl, r.sub _ _ q, hb.1, hb.2.1, hb.2.2, fun p hp => ?_⟩
        obtain ⟨g2, q2⟩ := new_lst r hp (scr_ts (K := X.K) (F := F) (ad := ad) (rangeL lo hi))
        exact k _ _ _ _ g2 q2
    · cases e
  · cases e
abbrev bListA : MF := bOr bList bListR
/-! ### slices of lists, of tuples -/
def partI (f : EF) (σ : Sg) (S : Cs) : Option (Option Int × Cs) := (f σ S).bind fun p => (asI p.1).map fun i => (some i, p.2)
abbrev OFn := Sg → Cs → Option (Option Int × Cs)
def noPart : OFn := fun _ S => some (none, S)
def tO (K : Frg) (f : OFn) : TO := fun τ H Q => ∃ F ad σ S i S', RelS K F ad S H ∧ SlotsOk K F ad σ τ ∧ f σ S = some (i, S') ∧ ∀ F' ad' H', Go K F ad H F' ad' H' S' → Q i H'
def FO (X : Cx) (e : Option Expr) (f : OFn) : Prop := PO X e (tO X.K f)
def cutG {α : Type} (xs : List α) (lo hi : Option Int) : List α := (xs.drop (HT.sIx xs.length 0 lo)).take (HT.sIx xs.length xs.length hi - HT.sIx xs.length 0 lo)
theorem Paired.cut {α β : Type} {R : α → β → Prop} {vs : List α} {ds : List β} (r : Paired R vs ds) (lo hi : Option Int) : Paired R (cutG vs lo hi) (cutG ds lo hi) := by
  unfold cutG
  rw [Paired.length r]
  exact Paired.take _ (Paired.drop _ r)
def cSl (fe : EF) (lo hi : OFn) : EF := fun σ S => (fe σ S).bind fun p => (lo σ p.2).bind fun a => (hi σ a.2).bind fun b => match seqOf p.1 b.2 with
  | some (false, ts) => some (.own b.2.length, b.2 ++ [.lst (cutG ts a.1 b.1)])
  | some (true, _) => (match asT p.1 b.2 with
    | some ds => if HT.sIx ds.length 0 a.1 = 0 ∧ HT.sIx ds.length ds.length b.1 = ds.length then none else some (.d (.tup (cutG ds a.1 b.1)), b.2)
    | none => none)
  | none => none
theorem SlR.or {r r' : V → Option Int → Option Int → Hp → VK → Prop} (h : SlR X r) (h' : SlR X r') : SlR X (fun x lo hi H Q => r x lo hi H Q ∨ r' x lo hi H Q) := fun pins s σ H x v vl vu lo hi sl Q I rx hs h1 h2 q =>
  q.elim (fun q => h pins s σ H x v vl vu lo hi sl Q I rx hs h1 h2 q) fun q => h' pins s σ H x v vl vu lo hi sl Q I rx hs h1 h2 q
/-! ### truth -/
def cTr (f : EF) : BF := fun σ S => (f σ S).bind fun p => match deref p.1 p.2 with
  | .d (.bl b) => some (b, p.2)
  | .d .non => some (false, p.2)
  | .d (.int i) => some (i != 0, p.2)
  | .d (.str z) => if z.length ≤ sizeLine then some (z.length != 0, p.2) else none
  | u => (match seqOf u p.2 with
    | some (_, ts) => some (!ts.isEmpty, p.2)
    | none => none)
theorem Paired.isEmpty {α β : Type} {R : α → β → Prop} {vs : List α} {ds : List β} (r : Paired R vs ds) : vs.isEmpty = ds.isEmpty := by
  cases r <;> rfl
/-! ### calls that give back what they took -/
def below (n : Nat) : T → Bool
  | .d _ => true
  | .own p => decide (p < n)
def cellBelow (n : Nat) : Cell → Bool
  | .lst ts => ts.all (below n)
  | .ins _ fs => fs.all fun q => below n q.2
  | .frz _ => true
theorem RepT.cut {K : Frg} {F : Hp} {ad : List Addr} {n : Nat} {v : V} {t : T} (r : RepT K F ad v t) (h : below n t = true) : RepT K F (ad.take n) v t := by
  cases t with
  | d d => exact r
  | own p =>
    obtain ⟨a, hp, rfl⟩ := r
    exact ⟨a, by rw [List.getElem?_take, if_pos (of_decide_eq_true h)]; exact hp, rfl⟩
theorem RepTs.cut {K : Frg} {F : Hp} {ad : List Addr} {n : Nat} : ∀ {vs : List V} {ts : List T}, RepTs K F ad vs ts → ts.all (below n) = true → RepTs K F (ad.take n) vs ts
  | _, _, .nil, _ => .nil
  | _, _, .cons q r, h => by
    rw [List.all_cons, Bool.and_eq_true] at h
    exact .cons (RepT.cut q h.1) (RepTs.cut r h.2)
theorem RepTF.cut {K : Frg} {F : Hp} {ad : List Addr} {n : Nat} : ∀ {vs : List (Str × V)} {ts : List (Str × T)}, RepTF K F ad vs ts → ts.all (fun q => below n q.2) = true → RepTF K F (ad.take n) vs ts
  | _, _, .nil, _ => .nil
  | _, _, .cons q r, h => by
    rw [List.all_cons, Bool.and_eq_true] at h
    exact .cons ⟨q.1, RepT.cut q.2 h.1⟩ (RepTF.cut r h.2)
theorem RelS.cut {K : Frg} {F : Hp} {ad : List Addr} {S : Cs} {H : Hp} (r : RelS K F ad S H) (n : Nat) (h : (S.take n).all (cellBelow n) = true) : RelS K F (ad.take n) (S.take n) H := by
  refine ⟨r.sub, r.nd.sublist (List.take_sublist _ _), by simp [r.len], fun p a c e1 e2 => ?_⟩
  have hb := List.all_eq_true.mp h c (List.mem_of_getElem? e2)
  rw [List.getElem?_take] at e1 e2
  split at e1
  · rename_i hp
    rw [if_pos hp] at e2
    have q := r.cells p a c e1 e2
    cases c with
    | lst ts => obtain ⟨x, vs, hh, q⟩ := q; exact ⟨x, vs, hh, RepTs.cut q hb⟩
    | ins c fs => obtain ⟨x, dx, fvs, hh, q⟩ := q; exact ⟨x, dx, fvs, hh, RepTF.cut q hb⟩
    | frz d => exact q
  · cases e1
theorem Go.cut {K : Frg} {F : Hp} {ad : List Addr} {H F' : Hp} {ad' : List Addr} {H' : Hp} {S S' : Cs} (r : RelS K F ad S H) (g : Go K F ad H F' ad' H' S') (h : (S'.take S.length).all (cellBelow S.length) = true) : Go K F ad H F' ad H' (S'.take S.length) ∧ ad'.take S.length = ad := by
  obtain ⟨l, el, _⟩ := g.st.adx
  have e : ad'.take S.length = ad := by rw [el, ← r.len, List.take_left]
  have q := g.rel.cut S.length h
  rw [e] at q
  exact ⟨⟨⟨g.st.fsub, g.st.fnew, ⟨[], by simp, fun _ h => by simp at h⟩, g.st.keep, g.st.alive⟩, q⟩, e⟩
/-- the answer is data (or a local object that was there); new local objects are forgotten -/
def cCallT (m : MF) (dts : List T) (n : Nat) (fs : AF) : EF := fun σ S => (fs σ S).bind fun p => if (p.1 ++ dts).length = n then
  (m (p.1 ++ dts) p.2).bind fun u => if below p.2.length u.1 = true then (if (u.2.take p.2.length).all (cellBelow p.2.length) = true then some (u.1, u.2.take p.2.length) else none)
    else (toD dep u.1 u.2).bind fun w => if (w.2.take p.2.length).all (cellBelow p.2.length) = true then some (.d w.1, w.2.take p.2.length) else none
  else none
/-- the answer may be a new list; other new local objects are forgotten -/
def cCallU (m : MF) (dts : List T) (n : Nat) (fs : AF) : EF := fun σ S => (fs σ S).bind fun p => if (p.1 ++ dts).length = n then
  (m (p.1 ++ dts) p.2).bind fun u => match u.1 with
    | .d d => if (u.2.take p.2.length).all (cellBelow p.2.length) = true then some (.d d, u.2.take p.2.length) else none
    | .own j => if j < p.2.length then none else (match u.2[j]? with
      | some (.lst ts) => (toDs ts u.2).bind fun w => if isFrz w.2[j]? = true then none else
          if (w.2.take p.2.length).all (cellBelow p.2.length) = true then some (.own p.2.length, w.2.take p.2.length ++ [.lst (w.1.map .d)]) else none
      | _ => none)
  else none
section
variable {n : Nat} {m : MF} {dvs : List V} {dts : List T} {E : XK} {fs : AF}
end
/-! ### new local objects that nothing holds are forgotten -/
def trimT (n : Nat) (o : Option (T × Cs)) : Option (T × Cs) := o.bind fun p => if below n p.1 = true then (if (p.2.take n).all (cellBelow n) = true then some (p.1, p.2.take n) else none) else some p
def trimB (n : Nat) (o : Option (Bool × Cs)) : Option (Bool × Cs) := o.bind fun p => if (p.2.take n).all (cellBelow n) = true then some (p.1, p.2.take n) else none
def cTrim (f : EF) : EF := fun σ S => trimT S.length (f σ S)
def cTrimB (f : BF) : BF := fun σ S => trimB S.length (f σ S)
end
end FL
/-! FL: a def of the text and its function; the law's end. -/
namespace FL
open PySem PySem.Spec PyProof.Rows L2
section
variable {P : Program} {w : World} {K : Frg} {mg : Str → Option Value}
end
section
variable {X : Cx} {k : Nat} {x : Str} {ps : List Str} {m : MF} {p pos : Pos} {e : Expr} {es : List Expr} {fs : AF}
end
theorem sc_mk {N ps : List Str} {sc : Scope} (h1 : sc.kind = .function) (h2 : sc.isCoroutine = false) (h3 : sc.isGenerator = false) (h4 : N.Nodup) (h5 : N.take ps.length = ps) (h6 : ∀ x ∈ ps, sc.names.lookup x = some .local ∨ sc.names.lookup x = some .cell) (h7 : ∀ y ∈ sc.names, y.2 ≠ .free) : FnScope N ps sc := ⟨h1, h2, h3, h4, h5, h6, h7⟩
theorem law_sp {K : Frg} {m : MF} {n : Nat} (hm : ∀ ns : List Int, ns.length ≤ n → ∃ S', m [.d (.scr ns)] [] = some (.d (.bl true), S')) (H : Hp) (a : Addr) (ns : List Int) (hl : ns.length ≤ n) (hS : SqL K H a (ns.map V.int)) :
    spF K 1 m [.ref a] H (fun v _ => v = .bl true) fun _ _ _ => False := by
  obtain ⟨S', e⟩ := hm ns hl
  exact ⟨H, [], [], [.d (.scr ns)], .d (.bl true), S', ⟨fun _ _ h => h, List.nodup_nil, rfl, fun p a c e _ => by simp at e⟩, .cons (Rep.scr hS) .nil, rfl, e, fun F' ad' H' v g rv => rv.bl⟩
end FL
/-! FL: enumerate of tuples, reversed ranges, zip. -/
namespace FLEn
open PySem
end FLEn
namespace FL
open PySem PySem.Spec PyProof.Rows L2
/-- the tuple at a, each item in a new pair -/
def IteT (K : PySem.W.Frag) (a : Addr) : It :=
  ⟨fun i H => ∃ (xs : List V) (x : V), SqT K H a xs ∧ xs[i]? = some x, fun i H v H' => ∃ T x, v = .ref T ∧ H T = none ∧ H' = upd H T (.tup [.int (i : Nat), x]) ∧ ∀ xs, SqT K H a xs → xs[i]? = some x, fun i H => ∃ xs : List V, SqT K H a xs ∧ xs.length ≤ i⟩
def iEnumT (K : PySem.W.Frag) (ta : TA) : TI := fun σ H R => ta σ H fun vs H1 => (∃ a xs, vs = [.ref a] ∧ SqL K H1 a xs ∧ R (Ite K a) H1) ∨ (∃ a xs, vs = [.ref a] ∧ SqT K H1 a xs ∧ R (IteT K a) H1)
end FL
/-! VL: values without places. Expressions are functions of the slots' data; objects that a def makes and changes are trees that one slot owns. -/
namespace VL
open PySem PySem.Spec PyProof.Rows L2 FL

namespace R
variable {ε α β : Type}
end R

section
variable {K : Frg} {F F' H H' : Hp}
mutual
theorem Own.move (hs : Sub F F') : ∀ {v : V} {o : O} {B : List Addr}, Own K F H v o B → (∀ b ∈ B, F' b = none ∧ H' b = H b) → Own K F' H' v o B
  | _, _, _, .d r, _ => .d (r.mono hs)
  | _, _, _, .l (a := a) h1 h2 h3, k => .l ((k a List.mem_cons_self).2.trans h1) (k a List.mem_cons_self).1 (Owns.move hs h3 fun b hb => k b (List.mem_cons_of_mem _ hb))
  | _, _, _, .i (a := a) h1 h2 h3, k => .i ((k a List.mem_cons_self).2.trans h1) (k a List.mem_cons_self).1 (OwnF.move hs h3 fun b hb => k b (List.mem_cons_of_mem _ hb))
  | _, _, _, .t h1 h2, k => .t (hs _ _ h1) (Owns.move hs h2 k)
theorem Owns.move (hs : Sub F F') : ∀ {v : List V} {o : List O} {B : List Addr}, Owns K F H v o B → (∀ b ∈ B, F' b = none ∧ H' b = H b) → Owns K F' H' v o B
  | _, _, _, .nil, _ => .nil
  | _, _, _, .cons h1 h2, k => .cons (Own.move hs h1 fun b hb => k b (List.mem_append_left _ hb)) (Owns.move hs h2 fun b hb => k b (List.mem_append_right _ hb))
theorem OwnF.move (hs : Sub F F') : ∀ {v : List (Str × V)} {o : List (Str × O)} {B : List Addr}, OwnF K F H v o B → (∀ b ∈ B, F' b = none ∧ H' b = H b) → OwnF K F' H' v o B
  | _, _, _, .nil, _ => .nil
  | _, _, _, .cons h1 h2, k => .cons (Own.move hs h1 fun b hb => k b (List.mem_append_left _ hb)) (OwnF.move hs h2 fun b hb => k b (List.mem_append_right _ hb))
end
theorem Owns.append : ∀ {vs ws : List V} {os ps : List O} {B C : List Addr}, Owns K F H vs os B → Owns K F H ws ps C → Owns K F H (vs ++ ws) (os ++ ps) (B ++ C)
  | _, _, _, _, _, _, .nil, s => s
  | _, _, _, _, _, _, .cons q r, s => by rw [List.append_assoc]; exact .cons q (Owns.append r s)
end

/-! ### pure steps: nothing that stood is changed -/
section
variable {F F' F'' H H' H'' : Hp}
theorem PStep.refl (h : Sub F H) : PStep F H F H := ⟨fun _ _ h => h, fun _ _ h => .inl h, fun _ _ h => h, h⟩
theorem none_up (h : Sub F H) {b : Addr} (q : H b = none) : F b = none := by
  cases z : F b with
  | none => rfl
  | some u => rw [h b u z] at q; cases q
theorem PStep.gone (a : PStep F H F' H') {b : Addr} (h : H' b = none) : H b = none := none_up a.hsub h
/-- a new object, data from now on -/
theorem PStep.newF (h : Sub F H) {a : Addr} {o : HO} (hn : H a = none) : PStep F H (upd F a o) (upd H a o) := by
  have fa := none_up h hn
  refine ⟨fun b u q => by rw [upd_ne (ne_of_none q fa)]; exact q, fun b u q => ?_, fun b u q => by rw [upd_ne (ne_of_none q hn)]; exact q, fun b u q => ?_⟩
  · by_cases e : b = a
    · rw [e]; exact .inr hn
    · rw [upd_ne e] at q; exact .inl q
  · by_cases e : b = a
    · rw [e, upd_same] at q; rw [e, upd_same]; exact q
    · rw [upd_ne e] at q; rw [upd_ne e]; exact h b u q
/-- a new object -/
theorem PStep.new (h : Sub F H) {a : Addr} {o : HO} (hn : H a = none) : PStep F H F (upd H a o) :=
  ⟨fun _ _ q => q, fun _ _ q => .inl q, fun b u q => by rw [upd_ne (ne_of_none q hn)]; exact q, fun b u q => by rw [upd_ne (ne_of_none (h b u q) hn)]; exact h b u q⟩
end
/-- F and what stands at A in H -/
def over (F H : Hp) (A : List Addr) : Hp := open Classical in fun b => if b ∈ A then H b else F b
theorem over_in {F H : Hp} {A : List Addr} {b : Addr} (h : b ∈ A) : over F H A b = H b := by unfold over; rw [if_pos h]
theorem over_out {F H : Hp} {A : List Addr} {b : Addr} (h : b ∉ A) : over F H A b = F b := by unfold over; rw [if_neg h]
def under (F : Hp) (A : List Addr) : Hp := open Classical in fun b => if b ∈ A then none else F b
theorem under_in {F : Hp} {A : List Addr} {b : Addr} (h : b ∈ A) : under F A b = none := by unfold under; rw [if_pos h]
theorem under_out {F : Hp} {A : List Addr} {b : Addr} (h : b ∉ A) : under F A b = F b := by unfold under; rw [if_neg h]
/-- new own objects become data -/
theorem PStep.freeze {F H F' H' : Hp} (s : PStep F H F' H') {B : List Addr} (hb : ∀ b ∈ B, H b = none) : PStep F H (over F' H' B) H' := by
  refine ⟨fun b u q => ?_, fun b u q => ?_, s.hsub, fun b u q => ?_⟩
  · by_cases e : b ∈ B
    · have := s.fsub b u q
      rw [over_in e]
      exact s.sub b u this
    · rw [over_out e]; exact s.fsub b u q
  · by_cases e : b ∈ B
    · exact .inr (hb b e)
    · rw [over_out e] at q; exact s.fnew b u q
  · by_cases e : b ∈ B
    · rw [over_in e] at q; exact q
    · rw [over_out e] at q; exact s.sub b u q
theorem over_sub {F H : Hp} (h : Sub F H) (A : List Addr) : Sub F (over F H A) := fun b u q => by
  by_cases e : b ∈ A
  · rw [over_in e]; exact h b u q
  · rw [over_out e]; exact q
theorem over_le {F H : Hp} (h : Sub F H) (A : List Addr) : Sub (over F H A) H := fun b u q => by
  by_cases e : b ∈ A
  · rw [over_in e] at q; exact q
  · rw [over_out e] at q; exact h b u q

/-! ### what an expression says of the slots' data -/
abbrev Sg := List (Option D)
def SlD (K : Frg) (F : Hp) (σ : Sg) (τ : L2.St) : Prop := σ.length = τ.length ∧ ∀ (i : Nat) (d : D), σ[i]? = some (some d) → ∃ v, τ[i]? = some (some v) ∧ Rep K F v d
theorem SlD.mono {K : Frg} {F F' : Hp} {σ : Sg} {τ : L2.St} (h : SlD K F σ τ) (s : Sub F F') : SlD K F' σ τ := ⟨h.1, fun i d e => let ⟨v, h1, h2⟩ := h.2 i d e; ⟨v, h1, h2.mono s⟩⟩
abbrev PEF := Sg → R Exn D
abbrev PBF := Sg → R Exn Bool
abbrev PAF := Sg → R Exn (List D)
abbrev POF := Sg → R Exn O
def tP (K : Frg) (W : WW) (f : PEF) : TE := fun τ H Q => ∃ F σ, Sub F H ∧ SlD K F σ τ ∧ Out K W τ F H (f σ) fun d F' H' => ∀ v, Rep K F' v d → Q v H'
def tPB (K : Frg) (W : WW) (f : PBF) : TT := fun τ H Q => ∃ F σ, Sub F H ∧ SlD K F σ τ ∧ Out K W τ F H (f σ) fun b _ H' => Q b H'
def tPA (K : Frg) (W : WW) (f : PAF) : TA := fun τ H Q => ∃ F σ, Sub F H ∧ SlD K F σ τ ∧ Out K W τ F H (f σ) fun ds F' H' => ∀ vs, Reps K F' vs ds → Q vs H'
/-- the value is a new object (or data) -/
def tPO (K : Frg) (W : WW) (f : POF) : TE := fun τ H Q => ∃ F σ, Sub F H ∧ SlD K F σ τ ∧ Out K W τ F H (f σ) fun o F' H' => ∀ v B, Own K F' H' v o B → Fresh H B → Q v H'
def PD (X : Cx) (W : WW) (e : Expr) (f : PEF) : Prop := PE X e (tP X.K W f)
def PB (X : Cx) (W : WW) (e : Expr) (f : PBF) : Prop := PT X e (tPB X.K W f)
def PBW (X : Cx) (W : WW) (e : Expr) (f : PBF) : Prop := PW X e (tPB X.K W f)
def PDs (X : Cx) (W : WW) (es : List Expr) (f : PAF) : Prop := PA X es (tPA X.K W f)
def PO (X : Cx) (W : WW) (e : Expr) (f : POF) : Prop := PE X e (tPO X.K W f)
/-- a new object may be held still -/
theorem PO.pd {X : Cx} {W : WW} {e : Expr} {f : POF} (h : PO X W e f) : PD X W e (fun σ => (f σ).map frz) :=
  FL.PE.imp h fun τ H Q ⟨F, σ, s, so, k⟩ => ⟨F, σ, s, so, by
    revert k
    show Out _ _ _ _ _ ((f σ).map frz) _ → _
    cases f σ with
    | ok o => exact fun k F' H' st v B ow fr => k (over F' H' B) H' (st.freeze fr.2) v (ow.frz (over_sub st.sub B) fun b hb => over_in hb)
    | ex x => exact id
    | no => exact id⟩
theorem PD.po {X : Cx} {W : WW} {e : Expr} {f : PEF} (h : PD X W e f) : PO X W e (fun σ => (f σ).map O.d) :=
  FL.PE.imp h fun τ H Q ⟨F, σ, s, so, k⟩ => ⟨F, σ, s, so, by
    revert k
    show Out _ _ _ _ _ ((f σ).map O.d) _ → _
    cases f σ with
    | ok o => exact fun k F' H' st v r => k F' H' st v [] (.d r) ⟨List.nodup_nil, fun b h => by simp at h⟩
    | ex x => exact id
    | no => exact id⟩
end VL
/-! VL: pure expressions. -/
namespace VL
open PySem PySem.Spec PyProof.Rows L2 FL
section
variable {X : Cx} {W : WW}
/-! ### names, constants -/
def cV (i : Nat) : PEF := fun σ => match σ[i]? with
  | some (some d) => .ok d
  | _ => .no
theorem nv (i : Nat) {x : Str} {pos : Pos} (hN : X.N[i]? = some x := by rfl) (hv : Vis X.env.scope x := by first | exact Or.inl rfl | exact Or.inr (Or.inl rfl) | exact Or.inr (Or.inr rfl)) (hd : (x == ("__debug__" : Str)) = false := by decide)
    (hcd : (x == ("__classdict__" : Str)) = false := by decide) : PD X W (.Name x pos) (cV i) := by
  refine FL.PE.imp (pe_var hN hv hd hcd) fun τ H Q ⟨F, σ, s, so, k⟩ => ?_
  unfold cV at k
  split at k
  · rename_i u hu
    obtain ⟨v, h1, h2⟩ := so.2 i _ hu
    exact ⟨v, h1, k F H (.refl s) v h2⟩
  · exact k.elim
def cK (d : D) : PEF := fun _ => .ok d
theorem p_K {e : Expr} {v : V} {d : D} (h : PE X e (tC v)) (hd : ∀ K F, Rep K F v d) : PD X W e (cK d) :=
  FL.PE.imp h fun τ H Q ⟨F, σ, s, so, k⟩ => k F H (.refl s) v (hd _ _)
theorem p_int {i j pos} : PD X W (.Constant (.int i) j pos) (cK (.int i)) := p_K pe_int fun _ _ => .int i
theorem p_bl {b j pos} : PD X W (.Constant (.bool b) j pos) (cK (.bl b)) := p_K pe_bl fun _ _ => .bl b
theorem p_non {j pos} : PD X W (.Constant .none j pos) (cK .non) := p_K pe_non fun _ _ => .non
theorem p_ty {x : Str} {n : String} {u : Value} {pos : Pos} (hg : Gl X x) (hm : X.mg x = none) (hv : bootBuiltins x = some u) (r : RelV (.ty n) u) (hn : x ≠ "__name__" := by decide) (hd : (x == ("__debug__" : Str)) = false := by decide) : PD X W (.Name x pos) (cK (.ty n)) :=
  p_K (pe_bltn hg hm hv r hn hd) fun _ _ => .ty n
/-! ### operators of two values -/
def fo : Option O → R Exn D := fun o => R.of (o.map frz)
def cBin (g : G2) (fa fb : PEF) : PEF := fun σ => (fa σ).bind fun x => (fb σ).bind fun y => fo (g x y)
def cBinO (g : G2) (fa fb : PEF) : POF := fun σ => (fa σ).bind fun x => (fb σ).bind fun y => R.of (g x y)
theorem cBinO_map (g : G2) (fa fb : PEF) (σ : Sg) : (cBinO g fa fb σ).map frz = cBin g fa fb σ := by
  unfold cBinO cBin fo
  cases fa σ with
  | ok x =>
    show ((fb σ).bind _).map _ = (fb σ).bind _
    cases fb σ with
    | ok y =>
      show (R.of (g x y)).map frz = R.of ((g x y).map frz)
      cases g x y <;> rfl
    | ex z => rfl
    | no => rfl
  | ex z => rfl
  | no => rfl
theorem two {fa fb : PEF} {g : G2} {τ : L2.St} {H : Hp} {Q : VK} (h : tPO X.K W (cBinO g fa fb) τ H Q) : tP X.K W fa τ H fun x H1 => tP X.K W fb τ H1 fun y H2 => r2 X.K g x y H2 Q := by
  obtain ⟨F, σ, s, so, k⟩ := h
  refine ⟨F, σ, s, so, (Out.bind k).imp fun dx F1 H1 s1 k1 x rx => ⟨F1, σ, s1.sub, so.mono s1.fsub, (Out.bind k1).imp fun dy F2 H2 s2 k2 y ry => ?_⟩⟩
  obtain ⟨o, e, k⟩ := Out.of k2
  exact ⟨F2, dx, dy, o, s2.sub, rx.mono s2.fsub, ry, e, fun F3 H3 v B s3 ow fr => k F3 H3 s3 v B ow ⟨fr.1, fun b hb => (s1.trans s2).gone (fr.2 b hb)⟩⟩
theorem PO.two {e : Expr} {g : G2} {fa fb : PEF} (h : PO X W e (cBinO g fa fb)) : PD X W e (cBin g fa fb) := by
  have q := h.pd
  have z : (fun σ => (cBinO g fa fb σ).map frz) = cBin g fa fb := funext fun σ => cBinO_map g fa fb σ
  rwa [z] at q
variable {a b : Expr} {fa fb : PEF} {pos : Pos}
theorem o_op {op : Operator} {g : G2} (ho : VOp X (binaryOp op) g) (ha : PD X W a fa) (hb : PD X W b fb) : PO X W (.BinOp a op b pos) (cBinO g fa fb) :=
  FL.PE.imp (pe_op ho ha hb) fun _ _ _ h => two h
theorem p_op {op : Operator} {g : G2} (ho : VOp X (binaryOp op) g) (ha : PD X W a fa) (hb : PD X W b fb) : PD X W (.BinOp a op b pos) (cBin g fa fb) := (o_op ho ha hb).two
theorem p_cmp {op : CmpOp} {g : G2} (ho : VOp X (compareOp op) g) (ha : PD X W a fa) (hb : PD X W b fb) (hm : behindInMarks op b = false) : PD X W (.Compare a [op] [b] pos) (cBin g fa fb) :=
  PO.two (FL.PE.imp (pe_cmpR ho ha hb hm) fun _ _ _ h => two h)
/-! ### tests -/
def asB : D → Option Bool
  | .bl b => some b
  | _ => none
theorem asB_ok {K : Frg} {F : Hp} {v : V} {d : D} {b : Bool} (e : asB d = some b) (r : Rep K F v d) : v = .bl b := by
  unfold asB at e
  split at e
  · cases e; cases r; rfl
  · cases e
def cB (f : PEF) : PBF := fun σ => (f σ).bind fun d => R.of (asB d)
theorem toB {f : PEF} {τ : L2.St} {H : Hp} {Q : Bool → Hp → Prop} (h : tPB X.K W (cB f) τ H Q) : tP X.K W f τ H fun x H1 => ∃ c, x = .bl c ∧ Q c H1 := by
  obtain ⟨F, σ, s, so, k⟩ := h
  refine ⟨F, σ, s, so, (Out.bind k).imp fun d F1 H1 s1 k1 x rx => ?_⟩
  obtain ⟨c, e, k⟩ := Out.of k1
  exact ⟨c, asB_ok e rx, k F1 H1 (.refl s1.sub)⟩
theorem tP_two {g : G2} {τ : L2.St} {H : Hp} {Q : VK} (h : tP X.K W (cBin g fa fb) τ H Q) : tP X.K W fa τ H fun x H1 => tP X.K W fb τ H1 fun y H2 => r2 X.K g x y H2 Q := by
  obtain ⟨F, σ, s, so, k⟩ := h
  refine ⟨F, σ, s, so, (Out.bind k).imp fun dx F1 H1 s1 k1 x rx => ⟨F1, σ, s1.sub, so.mono s1.fsub, (Out.bind k1).imp fun dy F2 H2 s2 k2 y ry => ?_⟩⟩
  obtain ⟨d, e, k⟩ := Out.of k2
  obtain ⟨o, e', rfl⟩ := Option.map_eq_some_iff.mp e
  exact ⟨F2, dx, dy, o, s2.sub, rx.mono s2.fsub, ry, e', fun F3 H3 v B s3 ow fr => k (over F3 H3 B) H3 (s3.freeze fr.2) v (ow.frz (over_sub s3.sub B) fun b hb => over_in hb)⟩
theorem b_cmp {op : CmpOp} {g : G2} (ho : VOp X (compareOp op) g) (ha : PD X W a fa) (hb : PD X W b fb) (hm : behindInMarks op b = false) : PB X W (.Compare a [op] [b] pos) (cB (cBin g fa fb)) :=
  FL.PT.imp (pt_cmpR ho ha hb hm) fun τ H Q h => tP_two (toB h)
def cAnd (f g : PBF) : PBF := fun σ => (f σ).bind fun b => if b = true then g σ else .ok false
def cOr (f g : PBF) : PBF := fun σ => (f σ).bind fun b => if b = true then .ok true else g σ
def cNot (f : PBF) : PBF := fun σ => (f σ).map fun b => !b
variable {fA fB : PBF} {rest : List Expr}
theorem w_and1 (ha : PB X W a fA) : PBW X W (.BoolOp .And [a] pos) fA := pw_and1 ha
theorem w_or1 (ha : PB X W a fA) : PBW X W (.BoolOp .Or [a] pos) fA := pw_or1 ha
theorem w_and (ha : PB X W a fA) (hb : PBW X W (.BoolOp .And (b :: rest) pos) fB) : PBW X W (.BoolOp .And (a :: b :: rest) pos) (cAnd fA fB) := by
  refine FL.PW.imp (pw_and ha hb) fun τ H Q ⟨F, σ, s, so, k⟩ => ⟨F, σ, s, so, (Out.bind k).imp fun c F1 H1 s1 k1 => ?_⟩
  cases c with
  | false => exact k1 F1 H1 (.refl s1.sub)
  | true => exact ⟨F1, σ, s1.sub, so.mono s1.fsub, k1⟩
theorem w_or (ha : PB X W a fA) (hb : PBW X W (.BoolOp .Or (b :: rest) pos) fB) : PBW X W (.BoolOp .Or (a :: b :: rest) pos) (cOr fA fB) := by
  refine FL.PW.imp (pw_or ha hb) fun τ H Q ⟨F, σ, s, so, k⟩ => ⟨F, σ, s, so, (Out.bind k).imp fun c F1 H1 s1 k1 => ?_⟩
  cases c with
  | true => exact k1 F1 H1 (.refl s1.sub)
  | false => exact ⟨F1, σ, s1.sub, so.mono s1.fsub, k1⟩
theorem b_w {e : Expr} (h : PBW X W e fA) : PB X W e fA := L2.PW.pt h
theorem b_not (ha : PB X W a fA) : PB X W (.UnaryOp .Not a pos) (cNot fA) := by
  refine FL.PT.imp (pt_not ha) fun τ H Q ⟨F, σ, s, so, k⟩ => ⟨F, σ, s, so, (Out.map k).imp fun c F1 H1 s1 k1 => k1⟩
def cBV (f : PBF) : PEF := fun σ => (f σ).map .bl
def cAndV (f g : PEF) : PEF := fun σ => (cB f σ).bind fun b => if b = true then g σ else .ok (.bl false)
def cOrV (f g : PEF) : PEF := fun σ => (cB f σ).bind fun b => if b = true then .ok (.bl true) else g σ
theorem p_one {op} (h : PD X W a fa) : PD X W (.BoolOp op [a] pos) fa := pe_one h
theorem p_and (ha : PD X W a fa) (hb : PD X W (.BoolOp .And (b :: rest) pos) fb) : PD X W (.BoolOp .And (a :: b :: rest) pos) (cAndV fa fb) := by
  refine FL.PE.imp (pe_and ha hb) fun τ H Q ⟨F, σ, s, so, k⟩ => toB ⟨F, σ, s, so, (Out.bind k).imp fun c F1 H1 s1 k1 => ?_⟩
  cases c with
  | false => exact k1 F1 H1 (.refl s1.sub) _ (.bl _)
  | true => exact ⟨F1, σ, s1.sub, so.mono s1.fsub, k1⟩
theorem p_not (ha : PD X W a fa) : PD X W (.UnaryOp .Not a pos) (cBV (cNot (cB fa))) := by
  refine FL.PE.imp (pe_not ha) fun τ H Q ⟨F, σ, s, so, k⟩ => toB ⟨F, σ, s, so, (Out.map (Out.map k)).imp fun c F1 H1 s1 k1 => k1 _ (.bl _)⟩
def cIf {α : Type} (c : PBF) (f g : Sg → R Exn α) : Sg → R Exn α := fun σ => (c σ).bind fun b => if b = true then f σ else g σ
/-! ### argument lists, displays -/
def aNil : PAF := fun _ => .ok []
def aCons (f : PEF) (g : PAF) : PAF := fun σ => (f σ).bind fun d => (g σ).map fun ds => d :: ds
variable {e : Expr} {es : List Expr} {fs : PAF}
theorem a_nil : PDs X W [] aNil := PA.imp pa_nil fun τ H Q ⟨F, σ, s, so, k⟩ => k F H (.refl s) [] .nil
theorem a_cons (ha : PD X W e fa) (hr : PDs X W es fs) (hs : starEach (e :: es) X.env = (false, eval e X.env) :: starEach es X.env := by rfl) : PDs X W (e :: es) (aCons fa fs) := by
  refine PA.imp (pa_cons ha hr hs) fun τ H Q ⟨F, σ, s, so, k⟩ => ⟨F, σ, s, so, (Out.bind k).imp fun d F1 H1 s1 k1 v rv => ⟨F1, σ, s1.sub, so.mono s1.fsub, (Out.map k1).imp fun ds F2 H2 s2 k2 vs rs => k2 (v :: vs) (.cons (rv.mono s2.fsub) rs)⟩⟩
def cTup (f : PAF) : PEF := fun σ => (f σ).bind fun ds => if ds.length ≤ sizeLine then .ok (.tup ds) else .no
theorem p_tup {x1} (h : PDs X W es fs) : PD X W (.Tuple es x1 pos) (cTup fs) := by
  refine FL.PE.imp (pe_tup h) fun τ H Q ⟨F, σ, s, so, k⟩ => ⟨F, σ, s, so, (Out.bind k).imp fun ds F1 H1 s1 k1 vs rs => ?_⟩
  split at k1
  · rename_i hz
    refine ⟨by rw [rs.length]; exact hz, fun p hp => ?_⟩
    have s2 := PStep.newF (o := .tup vs) s1.sub hp
    exact k1 _ _ s2 _ (.tup (.of upd_same) (rs.mono s2.fsub))
  · exact k1.elim
/-- objects, from the left -/
abbrev POAF := Sg → R Exn (List O)
def tPOA (K : Frg) (W : WW) (f : POAF) : TA := fun τ H Q => ∃ F σ, Sub F H ∧ SlD K F σ τ ∧ Out K W τ F H (f σ) fun os F' H' => ∀ vs B, Owns K F' H' vs os B → Fresh H B → Q vs H'
def POs (X : Cx) (W : WW) (es : List Expr) (f : POAF) : Prop := PA X es (tPOA X.K W f)
def oNil : POAF := fun _ => .ok []
def oCons (f : POF) (g : POAF) : POAF := fun σ => (f σ).bind fun d => (g σ).map fun ds => d :: ds
theorem os_nil : POs X W [] oNil := PA.imp pa_nil fun τ H Q ⟨F, σ, s, so, k⟩ => k F H (.refl s) [] [] .nil ⟨List.nodup_nil, fun b h => by simp at h⟩
/-- a fresh object stays as it is -/
theorem Own.pstep {K : Frg} {F H F' H' : Hp} {v : V} {o : O} {B : List Addr} (ow : Own K F H v o B) (s : PStep F H F' H') : Own K F' H' v o B := by
  refine ow.move s.fsub fun b hb => ?_
  obtain ⟨⟨u, hu, _⟩, hf⟩ := ow.at b hb
  refine ⟨?_, by rw [hu]; exact s.hsub b u hu⟩
  cases q : F' b with
  | none => rfl
  | some w =>
    rcases s.fnew b w q with z | z
    · rw [hf] at z; cases z
    · rw [hu] at z; cases z
theorem Owns.pstep {K : Frg} {F H F' H' : Hp} {v : List V} {o : List O} {B : List Addr} (ow : Owns K F H v o B) (s : PStep F H F' H') : Owns K F' H' v o B := by
  refine ow.move s.fsub fun b hb => ?_
  obtain ⟨⟨u, hu, _⟩, hf⟩ := ow.at b hb
  refine ⟨?_, by rw [hu]; exact s.hsub b u hu⟩
  cases q : F' b with
  | none => rfl
  | some w =>
    rcases s.fnew b w q with z | z
    · rw [hf] at z; cases z
    · rw [hu] at z; cases z
theorem os_cons {fo : POF} {gs : POAF} (ha : PO X W e fo) (hr : POs X W es gs) (hs : starEach (e :: es) X.env = (false, eval e X.env) :: starEach es X.env := by rfl) : POs X W (e :: es) (oCons fo gs) := by
  refine PA.imp (pa_cons ha hr hs) fun τ H Q ⟨F, σ, s, so, k⟩ => ⟨F, σ, s, so, (Out.bind k).imp fun d F1 H1 s1 k1 v B ow fr => ⟨F1, σ, s1.sub, so.mono s1.fsub, (Out.map k1).imp fun ds F2 H2 s2 k2 vs C ows frs => k2 (v :: vs) (B ++ C) (.cons (ow.pstep s2) ows) ?_⟩⟩
  refine ⟨List.nodup_append.mpr ⟨fr.1, frs.1, fun x hx y hy e => ?_⟩, fun b hb => ?_⟩
  · obtain ⟨⟨u, hu, _⟩, _⟩ := ow.at x hx
    rw [e, frs.2 y hy] at hu; cases hu
  · rcases List.mem_append.mp hb with h | h
    · exact fr.2 b h
    · exact s1.gone (frs.2 b h)
def cLst (f : POAF) : POF := fun σ => (f σ).bind fun os => if os.length ≤ sizeLine then .ok (.l os) else .no
theorem o_lst {gs : POAF} (h : POs X W es gs) : PO X W (.List es pos) (cLst gs) := by
  refine FL.PE.imp (pe_lst h) fun τ H Q ⟨F, σ, s, so, k⟩ => ⟨F, σ, s, so, (Out.bind k).imp fun os F1 H1 s1 k1 vs B ows fr => ?_⟩
  split at k1
  · rename_i hz
    refine ⟨by rw [ows.length]; exact hz, fun p hp => ?_⟩
    have s2 := PStep.new (o := .lst vs) s1.sub hp
    refine k1 _ _ s2 _ (p :: B) (.l upd_same (none_up s1.sub hp) (ows.pstep s2)) ⟨List.nodup_cons.mpr ⟨fun hb => ?_, fr.1⟩, fun b hb => ?_⟩
    · obtain ⟨⟨u, hu, _⟩, _⟩ := ows.at p hb
      rw [hp] at hu; cases hu
    · rcases List.mem_cons.mp hb with e | e
      · rw [e]; exact s1.gone hp
      · exact fr.2 b e
  · exact k1.elim
end
end VL
/-! VL: operators and built-ins upon data. -/
namespace VL
open PySem PySem.Spec PyProof.Rows L2 FL
theorem frzL_d (ds : List D) : frzL (ds.map O.d) = ds := by
  induction ds with
  | nil => rfl
  | cons d ds ih => rw [List.map_cons]; unfold frzL; rw [ih]; unfold frz; rfl
theorem frz_ld (ds : List D) : frz (.l (ds.map O.d)) = .lst ds := by unfold frz; rw [frzL_d]
theorem frz_d (d : D) : frz (.d d) = d := by unfold frz; rfl
/-! ### from places to values -/
theorem allD_d (ds : List D) : allD (ds.map .d) = some ds := by
  induction ds with
  | nil => rfl
  | cons d ds ih => rw [List.map_cons]; unfold allD; rw [ih]; rfl
section
variable {X : Cx} {W : WW}
theorem VOp.or {f : Value → Value → Sem Value} {g g' : G2} (h : VOp X f g) (h' : VOp X f g') : VOp X f (fun x y => match g x y with
  | some o => some o
  | none => g' x y) := by
  refine OpR.imp (OpR.or h h') fun x y H Q ⟨F, dx, dy, o, s, rx, ry, e, k⟩ => ?_
  simp only at e
  split at e
  · rename_i z e1
    cases e
    exact .inl ⟨F, dx, dy, o, s, rx, ry, e1, k⟩
  · exact .inr ⟨F, dx, dy, o, s, rx, ry, e, k⟩
/-! ### ints -/
def gI0 (g : Int → Int → D) : G2 := fun x y => match x, y with
  | .int i, .int j => some (.d (g i j))
  | _, _ => none
theorem VOp.i0 {f : Value → Value → Sem Value} {g : Int → Int → D} (h : OpF X f (oI0 g)) : VOp X f (gI0 g) := VOp.of h fun x y o e => by
  unfold gI0 at e
  split at e
  · cases e; rfl
  · cases e
abbrev gSub : G2 := gI0 fun i j => .int (i - j)
abbrev gMod : G2 := gI (fun _ j => 0 < j) fun i j => .int (i % j)
abbrev gDiv : G2 := gI CDivW fun i j => .int (i / j)
abbrev gPow : G2 := gI CPow fun i j => .int (i ^ j.toNat)
abbrev gLt : G2 := gI0 fun i j => .bl (decide (i < j))
abbrev gLe : G2 := gI0 fun i j => .bl (decide (i ≤ j))
abbrev gGt : G2 := gI0 fun i j => .bl (decide (j < i))
abbrev gGe : G2 := gI0 fun i j => .bl (decide (j ≤ i))
abbrev gAddI : G2 := gI0 fun i j => .int (i + j)
abbrev gShl : G2 := gI CPow fun i j => .int (i * 2 ^ j.toNat)
abbrev gShr : G2 := gI (fun _ j => 0 ≤ j) fun i j => .int (i / 2 ^ j.toNat)
abbrev gAnd : G2 := gI0 fun i j => .int (Builtin.bitAnd i j)
abbrev gBor : G2 := gI0 fun i j => .int (Builtin.bitOr i j)
theorem v_sub : VOp X (binaryOp .Sub) gSub := .i0 f_sub
theorem v_mod : VOp X (binaryOp .Mod) gMod := .i f_mod
theorem v_div : VOp X (binaryOp .FloorDiv) gDiv := .i f_div
theorem v_pow : VOp X (binaryOp .Pow) gPow := .i f_pow
theorem v_lt : VOp X (compareOp .Lt) gLt := .i0 f_lt
theorem v_le : VOp X (compareOp .LtE) gLe := .i0 f_le
theorem v_gt : VOp X (compareOp .Gt) gGt := .i0 f_gt
theorem v_ge : VOp X (compareOp .GtE) gGe := .i0 f_ge
/-! ### + and * -/
def gAdd : G2 := fun x y => match x, y with
  | .int i, .int j => some (.d (.int (i + j)))
  | .lst a, .lst b => if a.length + b.length ≤ sizeLine then some (.l ((a ++ b).map .d)) else none
  | .tup a, .tup b => if a ≠ [] ∧ a.length + b.length ≤ sizeLine then some (.d (.tup (a ++ b))) else none
  | .str a, .str b => if a.length + b.length ≤ sizeLine then some (.d (.str (a ++ b))) else none
  | _, _ => none
theorem v_add : VOp X (binaryOp .Add) gAdd := VOp.of f_add fun x y o e => by
  unfold gAdd at e
  split at e
  · cases e; rfl
  · rename_i a b
    split at e
    · rename_i hz
      cases e
      have z : oAdd (.d (.lst a)) (.d (.lst b)) [] = some (.own 0, [.lst ((a ++ b).map .d)]) := by
        show oOr oAddI (oOr oCat (oOr oCatT oCatS)) _ _ _ = _
        unfold oOr
        have q : oCat (.d (.lst a)) (.d (.lst b)) [] = some (.own 0, [.lst ((a ++ b).map .d)]) := by
          show (if (a.map T.d).length + (b.map T.d).length ≤ sizeLine then _ else _) = _
          rw [if_pos (by simpa using hz), ← List.map_append]; rfl
        rw [show oAddI (.d (.lst a)) (.d (.lst b)) [] = none from rfl]
        simp only [q]
      rw [z]
      show (allD ((a ++ b).map .d)).map _ = _
      rw [allD_d]; rfl
    · cases e
  · rename_i a b
    split at e
    · rename_i hz
      cases e
      have z : oAdd (.d (.tup a)) (.d (.tup b)) [] = some (.d (.tup (a ++ b)), []) := by
        show oOr oAddI (oOr oCat (oOr oCatT oCatS)) _ _ _ = _
        unfold oOr
        rw [show oAddI (.d (.tup a)) (.d (.tup b)) [] = none from rfl]
        rw [show oCat (.d (.tup a)) (.d (.tup b)) [] = none from rfl]
        have q : oCatT (.d (.tup a)) (.d (.tup b)) [] = some (.d (.tup (a ++ b)), []) := by
          show (if a ≠ [] ∧ a.length + b.length ≤ sizeLine then _ else _) = _
          rw [if_pos hz]
        simp only [q]
      rw [z]; rfl
    · cases e
  · rename_i a b
    split at e
    · rename_i hz
      cases e
      have z : oAdd (.d (.str a)) (.d (.str b)) [] = some (.d (.str (a ++ b)), []) := by
        show oOr oAddI (oOr oCat (oOr oCatT oCatS)) _ _ _ = _
        unfold oOr
        rw [show oAddI (.d (.str a)) (.d (.str b)) [] = none from rfl]
        rw [show oCat (.d (.str a)) (.d (.str b)) [] = none from rfl]
        rw [show oCatT (.d (.str a)) (.d (.str b)) [] = none from rfl]
        have q : oCatS (.d (.str a)) (.d (.str b)) [] = some (.d (.str (a ++ b)), []) := by
          show (if a.length + b.length ≤ sizeLine then _ else _) = _
          rw [if_pos hz]
        simp only [q]
      rw [z]; rfl
    · cases e
  · cases e
def gMul : G2 := fun x y => match x, y with
  | .int i, .int j => if CMul i j then some (.d (.int (i * j))) else none
  | .lst a, .int k => if -(2 ^ 63) ≤ k ∧ k < 2 ^ 63 ∧ a.length * k.toNat ≤ sizeLine then some (.l ((List.replicate k.toNat a).flatten.map .d)) else none
  | _, _ => none
theorem v_mul : VOp X (binaryOp .Mult) gMul := VOp.of f_mul fun x y o e => by
  unfold gMul at e
  split at e
  · rename_i i j
    split at e
    · rename_i hz
      cases e
      have z : oMul (.d (.int i)) (.d (.int j)) [] = some (.d (.int (i * j)), []) := by
        show oOr oMulI oRep _ _ _ = _
        unfold oOr
        have q : oMulI (.d (.int i)) (.d (.int j)) [] = some (.d (.int (i * j)), []) := by
          show (if CMul i j then _ else _) = _
          rw [if_pos hz]
        simp only [q]
      rw [z]; rfl
    · cases e
  · rename_i a k
    split at e
    · rename_i hz
      cases e
      have z : oMul (.d (.lst a)) (.d (.int k)) [] = some (.own 0, [.lst ((List.replicate k.toNat a).flatten.map .d)]) := by
        show oOr oMulI oRep _ _ _ = _
        unfold oOr
        rw [show oMulI (.d (.lst a)) (.d (.int k)) [] = none from rfl]
        have q : oRep (.d (.lst a)) (.d (.int k)) [] = some (.own 0, [.lst ((List.replicate k.toNat a).flatten.map .d)]) := by
          show (if -(2 ^ 63) ≤ k ∧ k < 2 ^ 63 ∧ (a.map T.d).length * k.toNat ≤ sizeLine then _ else _) = _
          rw [if_pos (by simpa using hz)]
          simp [List.map_flatten]
        simp only [q]
      rw [z]
      show (allD ((List.replicate k.toNat a).flatten.map .d)).map _ = _
      rw [allD_d]; rfl
    · cases e
  · cases e
/-! ### ==, is, in -/
def eqD (x y : D) : Option Bool := match pyD x, pyD y with
  | some p, some q => if SeqAt.shaped p = true ∧ SeqAt.shaped q = true then some (PyData.eqv p q) else none
  | _, _ => none
def gEq : G2 := fun x y => (eqD x y).map fun b => .d (.bl b)
def gNe : G2 := fun x y => (eqD x y).map fun b => .d (.bl (!b))
theorem v_eq (hu : X.A.units + 64 < cLine) : VOp X (compareOp .Eq) gEq := VOp.of (f_eq hu) fun x y o e => by
  obtain ⟨b, e1, rfl⟩ := Option.map_eq_some_iff.mp e
  show ansO ((eqT (.d x) (.d y) []).map _) = _
  have z : eqT (.d x) (.d y) [] = eqD x y := rfl
  rw [z, e1]; rfl
theorem v_ne (hu : X.A.units + 64 < cLine) : VOp X (compareOp .NotEq) gNe := VOp.of (f_ne hu) fun x y o e => by
  obtain ⟨b, e1, rfl⟩ := Option.map_eq_some_iff.mp e
  show ansO ((eqT (.d x) (.d y) []).map _) = _
  have z : eqT (.d x) (.d y) [] = eqD x y := rfl
  rw [z, e1]; rfl
def isNon : D → Bool
  | .non => true
  | _ => false
def gIs : G2 := fun x y => if isNon y = true then some (.d (.bl (isNon x))) else none
def gIsN : G2 := fun x y => if isNon y = true then some (.d (.bl (!isNon x))) else none
theorem isNon_T (d : D) : isNone (.d d) = isNon d := by cases d <;> rfl
theorem v_is : VOp X (compareOp .Is) gIs := VOp.of f_is fun x y o e => by
  unfold gIs at e
  split at e
  · rename_i hn
    cases e
    show ansO (if isNone (.d y) = true then _ else _) = _
    rw [isNon_T, if_pos hn, isNon_T]; rfl
  · cases e
theorem v_isN : VOp X (compareOp .IsNot) gIsN := VOp.of f_isN fun x y o e => by
  unfold gIsN at e
  split at e
  · rename_i hn
    cases e
    show ansO (if isNone (.d y) = true then _ else _) = _
    rw [isNon_T, if_pos hn, isNon_T]; rfl
  · cases e
/-- the items of a sequence -/
def seqD : D → Option (Bool × List D)
  | .tup ds => some (true, ds)
  | .lst ds => some (false, ds)
  | .scr ns => some (false, ns.map .int)
  | _ => none
theorem seqOf_D (d : D) : seqOf (.d d) [] = (seqD d).map fun p => (p.1, p.2.map .d) := by
  cases d <;> first | rfl | (show some (false, _) = some (false, _); rw [List.map_map]; rfl)
theorem seqD_ok {K : Frg} {F H : Hp} {v : V} {d : D} {b : Bool} {ds : List D} (s : Sub F H) (r : Rep K F v d) (e : seqD d = some (b, ds)) :
    ∃ a vs, v = .ref a ∧ (b = true → SqT K H a vs) ∧ (b = false → SqL K H a vs) ∧ Reps K F vs ds := by
  have e2 : seqOf (.d d) [] = some (b, ds.map .d) := by rw [seqOf_D, e]; rfl
  obtain ⟨a, vs, e1, _, h1, h2, rs⟩ := seqOf_ok (t := .d d) (ad := []) (rel0 s) r e2
  exact ⟨a, vs, e1, h1, h2, Reps.tmap rs⟩
/-! ### subscripts -/
def gIx : G2 := fun x y => match y with
  | .int i => (match seqD x with
    | some p => (atI p.2 i).map .d
    | none => none)
  | _ => none
theorem atI_map {α β : Type} (f : α → β) (l : List α) (i : Int) : atI (l.map f) i = (atI l i).map f := by
  unfold atI
  rw [List.length_map]
  cases ixN l.length i with
  | none => rfl
  | some k =>
    show (l.map f)[k]? = (l[k]?).map f
    rw [List.getElem?_map]
def VIx (X : Cx) (g : G2) : Prop := IxR X (r2 X.K g)
theorem v_ix : VIx X gIx := by
  refine IxR.imp f_ix fun x y H Q ⟨F, dx, dy, o, s, rx, ry, e, k⟩ => ?_
  unfold gIx at e
  split at e
  · rename_i i
    split at e
    · rename_i p hp
      obtain ⟨d, e1, rfl⟩ := Option.map_eq_some_iff.mp e
      refine ⟨F, [], [], .d dx, .d (.int i), .d d, [], rel0 s, rx, ry, ?_, fun F' ad' H' v g rv => k F' H' v [] (.of_go g) (.d rv) ⟨List.nodup_nil, fun b h => by simp at h⟩⟩
      show (match seqOf (.d dx) [] with
        | some p => (atI p.2 i).map fun t => (t, [])
        | none => _) = _
      rw [seqOf_D, hp]
      show (atI (p.2.map T.d) i).map _ = _
      rw [atI_map, e1]; rfl
    · cases e
  · cases e
theorem p_ix {a b : Expr} {fa fb : PEF} {pos : Pos} (ha : PD X W a fa) (hb : PD X W b fb) (hs : PlainIx b := by intro _ _; rfl) : PD X W (.Subscript a b pos) (cBin gIx fa fb) :=
  PO.two (FL.PE.imp (pe_ix v_ix ha hb hs) fun _ _ _ h => VL.two h)
/-! ### -a, chains -/
def cNeg (f : PEF) : PEF := fun σ => (f σ).bind fun d => match d with
  | .int i => .ok (.int (-i))
  | _ => .no
theorem p_neg {a : Expr} {fa : PEF} {pos : Pos} (ha : PD X W a fa) : PD X W (.UnaryOp .USub a pos) (cNeg fa) := by
  refine FL.PE.imp (pe_un un_neg ha) fun τ H Q ⟨F, σ, s, so, k⟩ => ⟨F, σ, s, so, (Out.bind k).imp fun d F1 H1 s1 k1 v rv => ?_⟩
  split at k1
  · rename_i i
    cases rv
    exact ⟨i, rfl, k1 F1 H1 (.refl s1.sub) _ (.int _)⟩
  · exact k1.elim
def asG (o : Option O) : Option Bool := o.bind fun o => match o with
  | .d (.bl b) => some b
  | _ => none
def cChain (g g' : G2) (fa fb fc : PEF) : PEF := fun σ => (fa σ).bind fun x => (fb σ).bind fun y => (R.of (asG (g x y))).bind fun b => if b = true then (fc σ).bind fun z => fo (g' y z) else .ok (.bl false)
end
end VL
/-! VL: calls of built-ins. -/
namespace VL
open PySem PySem.Spec PyProof.Rows L2 FL
section
variable {X : Cx} {W : WW}
def gOr (g g' : GL) : GL := fun ds => match g ds with
  | some o => some o
  | none => g' ds
theorem VCall.or {f : Value} {g g' : GL} (h : VCall X f g) (h' : VCall X f g') : VCall X f (gOr g g') := by
  intro pins s σ H xs us Q I rx ⟨F, ds, o, s, rs, e, k⟩
  unfold gOr at e
  split at e
  · rename_i z e1
    cases e
    exact h pins _ σ H xs us Q I rx ⟨F, ds, o, s, rs, e1, k⟩
  · exact h' pins _ σ H xs us Q I rx ⟨F, ds, o, s, rs, e, k⟩
def cCB (g : GL) (fs : PAF) : PEF := fun σ => (fs σ).bind fun ds => fo (g ds)
def cCBO (g : GL) (fs : PAF) : POF := fun σ => (fs σ).bind fun ds => R.of (g ds)
theorem cCBO_map (g : GL) (fs : PAF) (σ : Sg) : (cCBO g fs σ).map frz = cCB g fs σ := by
  unfold cCBO cCB fo
  cases fs σ with
  | ok x =>
    show (R.of (g x)).map frz = R.of ((g x).map frz)
    cases g x <;> rfl
  | ex z => rfl
  | no => rfl
theorem PO.cb {e : Expr} {g : GL} {fs : PAF} (h : PO X W e (cCBO g fs)) : PD X W e (cCB g fs) := by
  have q := h.pd
  have z : (fun σ => (cCBO g fs σ).map frz) = cCB g fs := funext fun σ => cCBO_map g fs σ
  rwa [z] at q
section
variable {g : GL} {fs : PAF} {x : Str} {p pos : Pos} {e : Expr} {es : List Expr} {id : String}
theorem cb_rd {τ : L2.St} {H : Hp} {Q : VK} (h : tPO X.K W (cCBO g fs) τ H Q) : tCB (rC X.K g) (tPA X.K W fs) τ H Q := by
  obtain ⟨F, σ, s, so, k⟩ := h
  refine ⟨F, σ, s, so, (Out.bind k).imp fun ds F1 H1 s1 k1 vs rs => ?_⟩
  obtain ⟨o, e, k⟩ := Out.of k1
  exact ⟨F1, ds, o, s1.sub, rs, e, fun F' H' v B s' ow fr => k F' H' s' v B ow ⟨fr.1, fun b hb => s1.gone (fr.2 b hb)⟩⟩
theorem o_callB (hc : VCall X (.builtin id) g) (hg : Gl X x) (hm : X.mg x = none) (hv : bootBuiltins x = some (.builtin id)) (ha : PDs X W (e :: es) fs) (hn : x ≠ "__name__" := by decide) (hdb : (x == ("__debug__" : Str)) = false := by decide)
    (hs : starEach (e :: es) X.env = (false, eval e X.env) :: starEach es X.env := by rfl) (hpl : (backTo pos (starEach es X.env)).any (·.1) = false := by rfl) : PO X W (.Call (.Name x p) (e :: es) [] pos) (cCBO g fs) :=
  FL.PE.imp (pe_callB hc hg hm hv ha hn hdb hs hpl) fun _ _ _ h => cb_rd h
theorem o_callTy (hc : VCall X (.type id) g) (hg : Gl X x) (hm : X.mg x = none) (hv : bootBuiltins x = some (.type id)) (ha : PDs X W (e :: es) fs) (hn : x ≠ "__name__" := by decide) (hdb : (x == ("__debug__" : Str)) = false := by decide)
    (hs : starEach (e :: es) X.env = (false, eval e X.env) :: starEach es X.env := by rfl) (hpl : (backTo pos (starEach es X.env)).any (·.1) = false := by rfl) : PO X W (.Call (.Name x p) (e :: es) [] pos) (cCBO g fs) :=
  FL.PE.imp (pe_callTy hc hg hm hv ha hn hdb hs hpl) fun _ _ _ h => cb_rd h
theorem p_callB (hc : VCall X (.builtin id) g) (hg : Gl X x) (hm : X.mg x = none) (hv : bootBuiltins x = some (.builtin id)) (ha : PDs X W (e :: es) fs) (hn : x ≠ "__name__" := by decide) (hdb : (x == ("__debug__" : Str)) = false := by decide)
    (hs : starEach (e :: es) X.env = (false, eval e X.env) :: starEach es X.env := by rfl) (hpl : (backTo pos (starEach es X.env)).any (·.1) = false := by rfl) : PD X W (.Call (.Name x p) (e :: es) [] pos) (cCB g fs) := (o_callB hc hg hm hv ha hn hdb hs hpl).cb
theorem p_callTy (hc : VCall X (.type id) g) (hg : Gl X x) (hm : X.mg x = none) (hv : bootBuiltins x = some (.type id)) (ha : PDs X W (e :: es) fs) (hn : x ≠ "__name__" := by decide) (hdb : (x == ("__debug__" : Str)) = false := by decide)
    (hs : starEach (e :: es) X.env = (false, eval e X.env) :: starEach es X.env := by rfl) (hpl : (backTo pos (starEach es X.env)).any (·.1) = false := by rfl) : PD X W (.Call (.Name x p) (e :: es) [] pos) (cCB g fs) := (o_callTy hc hg hm hv ha hn hdb hs hpl).cb
end
/-! ### the built-ins -/
def g1 (g : D → Option O) : GL := fun ds => match ds with
  | [d] => g d
  | _ => none
def g2 (g : D → D → Option O) : GL := fun ds => match ds with
  | [d, e] => g d e
  | _ => none
theorem g1_some {g : D → Option O} {ds : List D} {o : O} (h : g1 g ds = some o) : ∃ d, ds = [d] ∧ g d = some o := by
  unfold g1 at h
  split at h
  · exact ⟨_, rfl, h⟩
  · cases h
theorem g2_some {g : D → D → Option O} {ds : List D} {o : O} (h : g2 g ds = some o) : ∃ d e, ds = [d, e] ∧ g d e = some o := by
  unfold g2 at h
  split at h
  · exact ⟨_, _, rfl, h⟩
  · cases h
def gLen : GL := g1 fun d => match d with
  | .str z => if z.length ≤ sizeLine then some (.d (.int z.length)) else none
  | d => (seqD d).map fun p => .d (.int p.2.length)
def gLenA : GL := g1 fun d => (seqD d).map fun p => .d (.int p.2.length)
theorem seqOf_some {d : D} {b : Bool} {ds : List D} (h : seqD d = some (b, ds)) : seqOf (.d d) [] = some (b, ds.map .d) := by rw [seqOf_D, h]; rfl
theorem v_lenA : VCall X (.builtin "len") gLenA := VCall.of f_len fun ds o h => by
  obtain ⟨d, rfl, h⟩ := g1_some h
  obtain ⟨⟨b, es⟩, h1, rfl⟩ := Option.map_eq_some_iff.mp h
  show ansO (b1 _ [.d d] []) = _
  simp [b1, seqOf_some h1, ansO]
def gI1 (g : Int → Int) : GL := g1 fun d => match d with
  | .int i => some (.d (.int (g i)))
  | _ => none
def gI2 (g : Int → Int → Int) : GL := g2 fun d e => match d, e with
  | .int i, .int j => some (.d (.int (g i j)))
  | _, _ => none
theorem VCall.i1 {f : Value} {g : Int → Int} (h : CallF X f (bI1 g)) : VCall X f (gI1 g) := VCall.of h fun ds o h' => by
  obtain ⟨d, rfl, h''⟩ := g1_some h'
  clear h'
  split at h''
  · cases h''; rfl
  · cases h''
theorem VCall.i2 {f : Value} {g : Int → Int → Int} (h : CallF X f (bI2 g)) : VCall X f (gI2 g) := VCall.of h fun ds o h' => by
  obtain ⟨d, e, rfl, h''⟩ := g2_some h'
  clear h'
  split at h''
  · cases h''; rfl
  · cases h''
abbrev gAbs : GL := gI1 fun i => if i < 0 then -i else i
abbrev gInt : GL := gI1 fun i => i
abbrev gMax2 : GL := gI2 fun i j => if j > i then j else i
abbrev gMin2 : GL := gI2 fun i j => if j < i then j else i
theorem v_abs : VCall X (.builtin "abs") gAbs := .i1 f_abs
theorem v_int : VCall X (.type "int") gInt := .i1 f_int
theorem v_max2 (hc : X.calm = true) : VCall X (.builtin "max") gMax2 := .i2 (f_max2 hc)
def gListS : GL := g1 fun d => (seqD d).map fun p => .l (p.2.map .d)
theorem v_listS : VCall X (.type "list") gListS := VCall.of f_list fun ds o h => by
  obtain ⟨d, rfl, h⟩ := g1_some h
  obtain ⟨⟨b, es⟩, h1, rfl⟩ := Option.map_eq_some_iff.mp h
  show ansO (b1 _ [.d d] []) = _
  simp [b1, seqOf_some h1, ansO, allD_d]
def gTuple : GL := g1 fun d => (seqD d).map fun p => .d (.tup p.2)
theorem toDs0 (ds : List D) : toDs (ds.map .d) [] = some (ds, []) := by
  unfold toDs
  induction ds with
  | nil => rfl
  | cons d ds ih =>
    rw [List.map_cons]
    show ((toD dep (.d d) []).bind _) = _
    have q : toD dep (.d d) [] = some (d, []) := rfl
    rw [q]
    show (mapS (toD dep) id (ds.map .d) []).map _ = _
    rw [ih]; rfl
theorem v_tuple : VCall X (.type "tuple") gTuple := VCall.of f_tuple fun ds o h => by
  obtain ⟨d, rfl, h⟩ := g1_some h
  obtain ⟨⟨b, es⟩, h1, rfl⟩ := Option.map_eq_some_iff.mp h
  show ansO (b1 _ [.d d] []) = _
  have hs := seqOf_some h1
  cases b <;> simp [b1, hs, ansO, toDs0]
def allI : List D → Option (List Int)
  | [] => some []
  | .int i :: ds => (allI ds).map fun is => i :: is
  | _ => none
theorem allI_ok : ∀ {ds : List D} {ns : List Int}, allI ds = some ns → ds = ns.map .int
  | [], _, e => by cases e; rfl
  | .int d :: ts, _, e => by
    obtain ⟨ds, e1, rfl⟩ := Option.map_eq_some_iff.mp e
    rw [allI_ok e1]; rfl
  | .non :: ts, _, e => by cases e
  | .bl _ :: ts, _, e => by cases e
  | .str _ :: ts, _, e => by cases e
  | .tup _ :: ts, _, e => by cases e
  | .lst _ :: ts, _, e => by cases e
  | .obj _ _ :: ts, _, e => by cases e
  | .scr _ :: ts, _, e => by cases e
  | .ty _ :: ts, _, e => by cases e
  | .glob _ :: ts, _, e => by cases e
  | .rng _ _ :: ts, _, e => by cases e
theorem allI_i (ds : List Int) : allI (ds.map .int) = some ds := by
  induction ds with
  | nil => rfl
  | cons d ds ih => rw [List.map_cons]; unfold allI; rw [ih]; rfl
def intsD (d : D) : Option (List Int) := match seqD d with
  | some (false, ds) => allI ds
  | _ => none
theorem mapO_asI (ns : List Int) : mapO asI ((ns.map D.int).map T.d) = some ns := by
  induction ns with
  | nil => rfl
  | cons n ns ih =>
    rw [List.map_cons, List.map_cons]
    show (asI (.d (.int n))).bind _ = _
    show (mapO asI ((ns.map D.int).map T.d)).map _ = _
    rw [ih]; rfl
theorem intsOf_some {d : D} {ns : List Int} (h : intsD d = some ns) : intsOf (.d d) [] = some ns := by
  unfold intsD at h
  split at h
  · rename_i es h1
    rw [allI_ok h] at h1
    unfold intsOf
    rw [seqOf_some h1]
    exact mapO_asI ns
  · cases h
def gSum : GL := g1 fun d => (intsD d).map fun ns => .d (.int ns.sum)
def gMax : GL := g1 fun d => match intsD d with
  | some (n :: ns) => some (.d (.int (maxI (n :: ns))))
  | _ => none
def gMin : GL := g1 fun d => match intsD d with
  | some (n :: ns) => some (.d (.int (minI (n :: ns))))
  | _ => none
theorem v_min (hc : X.calm = true) : VCall X (.builtin "min") gMin := VCall.of (f_min hc) fun ds o h => by
  obtain ⟨d, rfl, h2⟩ := g1_some h
  clear h
  split at h2
  · rename_i n ns h1
    cases h2
    show ansO (b1 _ [.d d] []) = _
    simp [b1, intsOf_some h1, ansO]
  · cases h2
def gSortI : GL := g1 fun d => (intsD d).map fun ns => .l ((srt ns).map fun i => .d (.int i))
def allB : List D → Option (List Bool)
  | [] => some []
  | d :: ds => match asB d with
    | some b => (allB ds).map fun is => b :: is
    | none => none
theorem allB_b (ds : List Bool) : allB (ds.map .bl) = some ds := by
  induction ds with
  | nil => rfl
  | cons d ds ih => rw [List.map_cons]; unfold allB; rw [ih]; rfl
def bsD (d : D) : Option (List Bool) := match seqD d with
  | some (false, ds) => allB ds
  | _ => none
def gAny : GL := g1 fun d => (bsD d).map fun ns => .d (.bl (ns.any id))
def gAll : GL := g1 fun d => (bsD d).map fun ns => .d (.bl (ns.all id))
def gRange1 : GL := g1 fun d => match d with
  | .int j => some (.d (.rng 0 j))
  | _ => none
def gRange2 : GL := g2 fun d e => match d, e with
  | .int i, .int j => some (.d (.rng i j))
  | _, _ => none
def gListR : GL := g1 fun d => match d with
  | .rng lo hi => if inR lo ∧ inR hi ∧ hi - lo ≤ 2 ^ 24 then some (.l ((rangeL lo hi).map fun i => .d (.int i))) else none
  | _ => none
theorem v_listR (hc : X.calm = true) : VCall X (.type "list") gListR := VCall.of (f_listR hc) fun ds o h => by
  obtain ⟨d, rfl, h2⟩ := g1_some h
  clear h
  split at h2
  · rename_i lo hi
    split at h2
    · rename_i hz
      cases h2
      have q : bListR [.d (.rng lo hi)] [] = some (.own 0, [.lst ((rangeL lo hi).map fun i => .d (.int i))]) := by
        show (if _ then _ else _) = _
        rw [if_pos hz]; rfl
      show ansO (bListR [.d (.rng lo hi)] []) = _
      rw [q]
      have z : allD ((rangeL lo hi).map fun i => T.d (.int i)) = some ((rangeL lo hi).map .int) := by
        have := allD_d ((rangeL lo hi).map .int)
        rw [List.map_map] at this
        exact this
      show (allD ((rangeL lo hi).map fun i => T.d (.int i))).map _ = _
      rw [z]
      show some (O.l (((rangeL lo hi).map .int).map .d)) = _
      rw [List.map_map]; rfl
    · cases h2
  · cases h2
def gList : GL := gOr gListS gListR
theorem v_list (hc : X.calm = true) : VCall X (.type "list") gList := v_listS.or (v_listR hc)
def gIsi : GL := g2 fun d e => match e with
  | .ty b => (tyD (.d d) []).bind fun a => (kit a b).map fun r => .d (.bl r)
  | _ => none
theorem v_isi : VCall X (.builtin "isinstance") gIsi := VCall.of f_isi fun ds o h => by
  obtain ⟨d, e, rfl, h2⟩ := g2_some h
  clear h
  split at h2
  · rename_i b
    obtain ⟨a, h3, h4⟩ := bind_some h2
    obtain ⟨r, h5, rfl⟩ := Option.map_eq_some_iff.mp h4
    show ansO ((tyD (.d d) []).bind fun a => (kit a b).map fun r => (T.d (.bl r), [])) = _
    rw [h3]
    show ansO ((kit a b).map _) = _
    rw [h5]; rfl
  · cases h2
end
end VL
/-! VL: the slots of a def, its own objects, steps that change them. -/
namespace VL
open PySem PySem.Spec PyProof.Rows L2 FL
section
variable {K : Frg} {F F' F'' H H' H'' : Hp} {A A' A'' : List Addr} {ω : Om} {τ : L2.St}
theorem VStep.refl : VStep F A H F A H := ⟨fun _ _ h => h, fun _ _ h => .inl h, fun _ h => .inl h, fun _ _ h _ => h, fun _ h => h⟩
theorem VStep.less (s : VStep F A H F' A' H') (h : ∀ b ∈ A'', b ∈ A') : VStep F A H F' A'' H' := ⟨s.fsub, s.fnew, fun b hb => s.anew b (h b hb), s.keep, s.alive⟩
theorem SlO.move (hs : Sub F F') : ∀ {ω : Om} {τ : L2.St} {A : List Addr}, SlO K F H ω τ A → (∀ b ∈ A, F' b = none ∧ H' b = H b) → SlO K F' H' ω τ A
  | _, _, _, .nil, _ => .nil
  | _, _, _, .un r, k => .un (SlO.move hs r k)
  | _, _, _, .v o r, k => .v (o.move hs fun b hb => k b (List.mem_append_left _ hb)) (SlO.move hs r fun b hb => k b (List.mem_append_right _ hb))
/-- what the slots show, all of them held still -/
def viewA (ω : Om) : Sg := ω.map fun x => x.map frz
def dOnly : O → Option D
  | .d d => some d
  | _ => none
/-- the slots that hold data -/
def viewD (ω : Om) : Sg := ω.map fun x => x.bind dOnly
theorem SlO.viewA0 : ∀ {ω : Om} {τ : L2.St} {A : List Addr}, SlO K F H ω τ A → (Sub F F') → (∀ b ∈ A, F' b = H b) → ∀ (i : Nat) (d : D), (VL.viewA ω)[i]? = some (some d) → ∃ v, τ[i]? = some (some v) ∧ Rep K F' v d
  | _, _, _, .nil, _, _ => fun i d e => by cases e
  | _, _, _, .un r, hs, k => fun i d e => by
    cases i with
    | zero => cases e
    | succ i => exact SlO.viewA0 r hs k i d e
  | _, _, _, .v o r, hs, k => fun i d e => by
    cases i with
    | zero =>
      cases e
      exact ⟨_, rfl, o.frz hs fun b hb => k b (List.mem_append_left _ hb)⟩
    | succ i => exact SlO.viewA0 r hs (fun b hb => k b (List.mem_append_right _ hb)) i d e
theorem SlO.viewD0 : ∀ {ω : Om} {τ : L2.St} {A : List Addr}, SlO K F H ω τ A → ∀ (i : Nat) (d : D), (VL.viewD ω)[i]? = some (some d) → ∃ v, τ[i]? = some (some v) ∧ Rep K F v d
  | _, _, _, .nil => fun i d e => by cases e
  | _, _, _, .un r => fun i d e => by
    cases i with
    | zero => cases e
    | succ i => exact SlO.viewD0 r i d e
  | _, _, _, .v o r => fun i d e => by
    cases i with
    | zero =>
      cases o with
      | d rr => cases e; exact ⟨_, rfl, rr⟩
      | l h1 h2 h3 => cases e
      | i h1 h2 h3 => cases e
      | t h1 h2 => cases e
    | succ i => exact SlO.viewD0 r i d e
theorem SlO.viewA {ω : Om} {τ : L2.St} {A : List Addr} (r : SlO K F H ω τ A) (hs : Sub F F') (k : ∀ b ∈ A, F' b = H b) : SlD K F' (VL.viewA ω) τ := ⟨by unfold VL.viewA; rw [List.length_map]; exact r.length, r.viewA0 hs k⟩
theorem SlO.viewD {ω : Om} {τ : L2.St} {A : List Addr} (r : SlO K F H ω τ A) : SlD K F (VL.viewD ω) τ := ⟨by unfold VL.viewD; rw [List.length_map]; exact r.length, r.viewD0⟩
/-- one slot apart: what it holds, and what may be put into it -/
theorem SlO.focus : ∀ {ω : Om} {τ : L2.St} {A : List Addr} (i : Nat), SlO K F H ω τ A → i < ω.length → ∃ A1 B A2, A = A1 ++ (B ++ A2) ∧ (ω[i]? = some none → B = []) ∧
    (∀ o, ω[i]? = some (some o) → ∃ v, τ[i]? = some (some v) ∧ Own K F H v o B) ∧
    (∀ (F' H' : Hp) (v : V) (o : O) (B' : List Addr), Sub F F' → (∀ b ∈ A1 ++ A2, F' b = none ∧ H' b = H b) → Own K F' H' v o B' → SlO K F' H' (ω.set i (some o)) (τ.set i (some v)) (A1 ++ (B' ++ A2))) ∧
    (∀ (F' H' : Hp) (x : Option V), Sub F F' → (∀ b ∈ A1 ++ A2, F' b = none ∧ H' b = H b) → SlO K F' H' (ω.set i none) (τ.set i x) (A1 ++ A2))
  | _, _, _, i, .nil, h => by simp at h
  | _, _, _, 0, .un (A := A) r, h => ⟨[], [], A, rfl, fun _ => rfl, fun o e => (by cases e), fun F' H' v o B' hs k ow => (by rw [List.nil_append]; exact .v ow (r.move hs k)), fun F' H' x hs k => .un (r.move hs k)⟩
  | _, _, _, 0, .v (B := B) (A := A) ow r, h => ⟨[], B, A, rfl, fun e => (by cases e), fun o e => (by cases e; exact ⟨_, rfl, ow⟩), fun F' H' v o B' hs k ow => (by rw [List.nil_append]; exact .v ow (r.move hs k)), fun F' H' x hs k => .un (r.move hs k)⟩
  | _, _, _, i + 1, .un r, h => by
    obtain ⟨A1, B, A2, e, h1, h2, h3, h4⟩ := SlO.focus i r (by simpa using h)
    exact ⟨A1, B, A2, e, h1, h2, fun F' H' v o B' hs k ow => .un (h3 F' H' v o B' hs k ow), fun F' H' x hs k => .un (h4 F' H' x hs k)⟩
  | _, _, _, i + 1, .v (B := B0) ow r, h => by
    obtain ⟨A1, B, A2, e, h1, h2, h3, h4⟩ := SlO.focus i r (by simpa using h)
    refine ⟨B0 ++ A1, B, A2, by rw [e, List.append_assoc], h1, h2, fun F' H' v o B' hs k ow' => ?_, fun F' H' x hs k => ?_⟩
    · rw [List.append_assoc]
      exact .v (ow.move hs fun b hb => k b (List.mem_append_left _ (List.mem_append_left _ hb))) (h3 F' H' v o B' hs (fun b hb => k b (by
        rcases List.mem_append.mp hb with z | z
        · exact List.mem_append_left _ (List.mem_append_right _ z)
        · exact List.mem_append_right _ z)) ow')
    · rw [List.append_assoc]
      exact .v (ow.move hs fun b hb => k b (List.mem_append_left _ (List.mem_append_left _ hb))) (h4 F' H' x hs fun b hb => k b (by
        rcases List.mem_append.mp hb with z | z
        · exact List.mem_append_left _ (List.mem_append_right _ z)
        · exact List.mem_append_right _ z))
theorem VRel.fnone (r : VRel K F H A ω τ) {b : Addr} (h : b ∈ A) : F b = none := (r.sl.at b h).2
theorem VRel.there (r : VRel K F H A ω τ) {b : Addr} (h : b ∈ A) : ∃ u, H b = some u := let ⟨⟨u, h, _⟩, _⟩ := r.sl.at b h; ⟨u, h⟩
/-- an object beside the slots stays as it is -/
theorem Own.frame {v : V} {o : O} {B : List Addr} (ow : Own K F H v o B) (hd : ∀ b ∈ B, b ∉ A) (s : VStep F A H F' A' H') : Own K F' H' v o B := by
  refine ow.move s.fsub fun b hb => ?_
  obtain ⟨⟨u, hu, _⟩, hf⟩ := ow.at b hb
  refine ⟨?_, by rw [hu]; exact s.keep b u hu (hd b hb)⟩
  cases q : F' b with
  | none => rfl
  | some w =>
    rcases s.fnew b w q with z | z | z
    · rw [hf] at z; cases z
    · exact absurd z (hd b hb)
    · rw [hu] at z; cases z
theorem Owns.frame {v : List V} {o : List O} {B : List Addr} (ow : Owns K F H v o B) (hd : ∀ b ∈ B, b ∉ A) (s : VStep F A H F' A' H') : Owns K F' H' v o B := by
  refine ow.move s.fsub fun b hb => ?_
  obtain ⟨⟨u, hu, _⟩, hf⟩ := ow.at b hb
  refine ⟨?_, by rw [hu]; exact s.keep b u hu (hd b hb)⟩
  cases q : F' b with
  | none => rfl
  | some w =>
    rcases s.fnew b w q with z | z | z
    · rw [hf] at z; cases z
    · exact absurd z (hd b hb)
    · rw [hu] at z; cases z
theorem VStep.apart {B : List Addr} (hd : ∀ b ∈ B, b ∉ A) (ht : ∀ b ∈ B, ∃ u, H b = some u) (s : VStep F A H F' A' H') : ∀ b ∈ B, b ∉ A' := fun b hb ha => by
  rcases s.anew b ha with z | z
  · exact hd b hb z
  · obtain ⟨u, hu⟩ := ht b hb
    rw [hu] at z; cases z
theorem nodup_apart {α : Type} {B A : List α} (h : (B ++ A).Nodup) : ∀ b ∈ B, b ∉ A := fun b hb ha => (List.nodup_append.mp h).2.2 b hb b ha rfl
theorem nodup_join {α : Type} {B A : List α} (h1 : B.Nodup) (h2 : A.Nodup) (h : ∀ b ∈ B, b ∉ A) : (B ++ A).Nodup := List.nodup_append.mpr ⟨h1, h2, fun x hx y hy e => h x hx (e ▸ hy)⟩
/-! ### a pure step seen from the slots -/
/-- all slots held still: what comes out must be flat -/
theorem VRel.still (r : VRel K F H A ω τ) : Sub (over F H A) H ∧ SlD K (over F H A) (VL.viewA ω) τ :=
  ⟨over_le r.sub A, r.sl.viewA (over_sub r.sub A) fun b hb => over_in hb⟩
theorem VRel.awake (r : VRel K F H A ω τ) {G : Hp} (s : PStep (over F H A) H G H') : VStep F A H (under G A) A H' ∧ VRel K (under G A) H' A ω τ ∧ ∀ b o, G b = some o → under G A b = some o ∨ isLI o := by
  have fs : Sub F (under G A) := fun b o h => by
    have hb : b ∉ A := fun z => by rw [r.fnone z] at h; cases h
    rw [under_out hb]
    exact s.fsub b o (by rw [over_out hb]; exact h)
  refine ⟨⟨fs, fun b o h => ?_, fun b h => .inl h, fun b o h _ => s.hsub b o h, fun b h => s.gone h⟩, ⟨fun b o h => ?_, r.sl.move fs fun b hb => ⟨under_in hb, ?_⟩, r.nd⟩, fun b o h => ?_⟩
  · by_cases hb : b ∈ A
    · exact .inr (.inl hb)
    · rw [under_out hb] at h
      rcases s.fnew b o h with z | z
      · rw [over_out hb] at z; exact .inl z
      · exact .inr (.inr z)
  · by_cases hb : b ∈ A
    · rw [under_in hb] at h; cases h
    · rw [under_out hb] at h; exact s.sub b o h
  · obtain ⟨u, hu⟩ := r.there hb
    rw [hu]; exact s.hsub b u hu
  · by_cases hb : b ∈ A
    · obtain ⟨⟨u, hu, li⟩, _⟩ := r.sl.at b hb
      have := s.fsub b u (by rw [over_in hb]; exact hu)
      rw [h] at this
      cases this
      exact .inr li
    · rw [under_out hb]; exact .inl h
/-- only data is looked at -/
theorem VRel.pure (r : VRel K F H A ω τ) (s : PStep F H F' H') : VStep F A H F' A H' ∧ VRel K F' H' A ω τ := by
  have nf : ∀ b ∈ A, F' b = none := fun b hb => by
    cases q : F' b with
    | none => rfl
    | some w =>
      rcases s.fnew b w q with z | z
      · rw [r.fnone hb] at z; cases z
      · obtain ⟨u, hu⟩ := r.there hb
        rw [hu] at z; cases z
  refine ⟨⟨s.fsub, fun b o h => ?_, fun b h => .inl h, fun b o h _ => s.hsub b o h, fun b h => s.gone h⟩, ⟨s.sub, r.sl.move s.fsub fun b hb => ⟨nf b hb, ?_⟩, r.nd⟩⟩
  · rcases s.fnew b o h with z | z
    · exact .inl z
    · exact .inr (.inr z)
  · obtain ⟨u, hu⟩ := r.there hb
    rw [hu]; exact s.hsub b u hu
theorem fresh_apart (r : VRel K F H A ω τ) {B : List Addr} (fr : Fresh H B) : (B ++ A).Nodup := nodup_join fr.1 r.nd fun b hb ha => by
  obtain ⟨u, hu⟩ := r.there ha
  rw [fr.2 b hb] at hu; cases hu
/-- a slot gets an object that stands apart -/
theorem VRel.set (r : VRel K F H A ω τ) {v : V} {o : O} {B : List Addr} (ow : Own K F H v o B) (nd : (B ++ A).Nodup) (i : Nat) :
    ∃ A', VRel K F H A' (ω.set i (some o)) (τ.set i (some v)) ∧ ∀ b ∈ A', b ∈ B ++ A := by
  by_cases hi : i < ω.length
  · obtain ⟨A1, C, A2, e, _, _, h3, _⟩ := r.sl.focus i hi
    subst e
    have nd' := nd
    have nb := nodup_apart nd
    refine ⟨A1 ++ (B ++ A2), ⟨r.sub, h3 F H v o B (fun _ _ h => h) (fun b hb => ⟨r.fnone ?_, rfl⟩) ow, ?_⟩, fun b hb => ?_⟩
    · rcases List.mem_append.mp hb with z | z
      · exact List.mem_append_left _ z
      · exact List.mem_append_right _ (List.mem_append_right _ z)
    · have a := List.nodup_append.mp r.nd
      have c := List.nodup_append.mp a.2.1
      refine nodup_join a.1 (nodup_join (List.nodup_append.mp nd).1 c.2.1 fun b hb h2 => nb b hb (List.mem_append_right _ (List.mem_append_right _ h2))) fun b hb h2 => ?_
      rcases List.mem_append.mp h2 with z | z
      · exact nb b z (List.mem_append_left _ hb)
      · exact a.2.2 b hb b (List.mem_append_right _ z) rfl
    · rcases List.mem_append.mp hb with z | z
      · exact List.mem_append_right _ (List.mem_append_left _ z)
      · rcases List.mem_append.mp z with z | z
        · exact List.mem_append_left _ z
        · exact List.mem_append_right _ (List.mem_append_right _ (List.mem_append_right _ z))
  · have hl := r.sl.length
    refine ⟨A, ?_, fun b hb => List.mem_append_right _ hb⟩
    rw [List.set_eq_of_length_le (by omega), List.set_eq_of_length_le (by omega)]
    exact r
theorem VRel.forget1 (r : VRel K F H A ω τ) (i : Nat) : ∃ A', VRel K F H A' (ω.set i none) τ ∧ ∀ b ∈ A', b ∈ A := by
  by_cases hi : i < ω.length
  · obtain ⟨A1, C, A2, e, _, _, _, h4⟩ := r.sl.focus i hi
    subst e
    have hl := r.sl.length
    have q := h4 F H (τ[i]'(by omega)) (fun _ _ h => h) (fun b hb => ⟨r.fnone (by
      rcases List.mem_append.mp hb with z | z
      · exact List.mem_append_left _ z
      · exact List.mem_append_right _ (List.mem_append_right _ z)), rfl⟩)
    rw [List.set_getElem_self] at q
    refine ⟨A1 ++ A2, ⟨r.sub, q, ?_⟩, fun b hb => ?_⟩
    · have a := List.nodup_append.mp r.nd
      exact nodup_join a.1 (List.nodup_append.mp a.2.1).2.1 fun b hb h2 => a.2.2 b hb b (List.mem_append_right _ h2) rfl
    · rcases List.mem_append.mp hb with z | z
      · exact List.mem_append_left _ z
      · exact List.mem_append_right _ (List.mem_append_right _ z)
  · refine ⟨A, ?_, fun b hb => hb⟩
    rw [List.set_eq_of_length_le (by omega)]
    exact r
def forget (is : List Nat) (ω : Om) : Om := is.foldl (fun s i => s.set i none) ω
theorem VRel.forget : ∀ {is : List Nat} {ω : Om} {A : List Addr}, VRel K F H A ω τ → ∃ A', VRel K F H A' (VL.forget is ω) τ ∧ ∀ b ∈ A', b ∈ A
  | [], _, A, r => ⟨A, r, fun _ h => h⟩
  | i :: is, _, A, r => by
    obtain ⟨A1, r1, h1⟩ := r.forget1 i
    obtain ⟨A2, r2, h2⟩ := VRel.forget (is := is) r1
    exact ⟨A2, r2, fun b hb => h1 b (h2 b hb)⟩
/-- a slot's object is taken out -/
theorem VRel.take (r : VRel K F H A ω τ) {i : Nat} {o : O} (h : ω[i]? = some (some o)) :
    ∃ v B A', τ[i]? = some (some v) ∧ Own K F H v o B ∧ VRel K F H A' (ω.set i none) τ ∧ (B ++ A').Nodup ∧ ∀ b ∈ B ++ A', b ∈ A := by
  have hi := (List.getElem?_eq_some_iff.mp h).1
  obtain ⟨A1, B, A2, e, _, h2, _, h4⟩ := r.sl.focus i hi
  subst e
  obtain ⟨v, hv, ow⟩ := h2 o h
  have hl := r.sl.length
  have q := h4 F H (τ[i]'(by omega)) (fun _ _ h => h) (fun b hb => ⟨r.fnone (by
    rcases List.mem_append.mp hb with z | z
    · exact List.mem_append_left _ z
    · exact List.mem_append_right _ (List.mem_append_right _ z)), rfl⟩)
  rw [List.set_getElem_self] at q
  have a := List.nodup_append.mp r.nd
  have c := List.nodup_append.mp a.2.1
  refine ⟨v, B, A1 ++ A2, hv, ow, ⟨r.sub, q, nodup_join a.1 c.2.1 fun b hb h2 => a.2.2 b hb b (List.mem_append_right _ h2) rfl⟩, nodup_join c.1 (nodup_join a.1 c.2.1 fun b hb h2 => a.2.2 b hb b (List.mem_append_right _ h2) rfl) fun b hb h2 => ?_, fun b hb => ?_⟩
  · rcases List.mem_append.mp h2 with z | z
    · exact a.2.2 b z b (List.mem_append_left _ hb) rfl
    · exact c.2.2 b hb b z rfl
  · rcases List.mem_append.mp hb with z | z
    · exact List.mem_append_right _ (List.mem_append_left _ z)
    · rcases List.mem_append.mp z with z | z
      · exact List.mem_append_left _ z
      · exact List.mem_append_right _ (List.mem_append_right _ z)
/-- an object that stands apart becomes data -/
theorem VRel.settle (r : VRel K F H A ω τ) {v : V} {o : O} {B : List Addr} (ow : Own K F H v o B) (nd : (B ++ A).Nodup) :
    VStep F (B ++ A) H (over F H B) A H ∧ VRel K (over F H B) H A ω τ ∧ Rep K (over F H B) v (frz o) := by
  have nb := nodup_apart nd
  refine ⟨⟨over_sub r.sub B, fun b o h => ?_, fun b h => .inl (List.mem_append_right _ h), fun b o h _ => h, fun b h => h⟩, ⟨over_le r.sub B, r.sl.move (over_sub r.sub B) fun b hb => ⟨?_, rfl⟩, r.nd⟩, ow.frz (over_sub r.sub B) fun b hb => over_in hb⟩
  · by_cases hb : b ∈ B
    · exact .inr (.inl (List.mem_append_left _ hb))
    · rw [over_out hb] at h; exact .inl h
  · rw [over_out fun z => nb b z hb]; exact r.fnone hb
/-- a slot's object becomes data -/
theorem VRel.freeze (r : VRel K F H A ω τ) {i : Nat} {o : O} (h : ω[i]? = some (some o)) :
    ∃ F' A' v, VStep F A H F' A' H ∧ VRel K F' H A' (ω.set i (some (.d (frz o)))) τ ∧ τ[i]? = some (some v) ∧ Rep K F' v (frz o) := by
  obtain ⟨v, B, A', hv, ow, r', nd, hm⟩ := r.take h
  obtain ⟨s, r2, rd⟩ := r'.settle ow nd
  obtain ⟨A'', r3, h3⟩ := r2.set (B := []) (.d rd) (by simpa using r2.nd) i
  have e1 : (ω.set i none).set i (some (.d (frz o))) = ω.set i (some (.d (frz o))) := List.set_set ..
  have e2 : τ.set i (some v) = τ := by
    obtain ⟨hi, e⟩ := List.getElem?_eq_some_iff.mp hv
    rw [← e, List.set_getElem_self]
  rw [e1, e2] at r3
  exact ⟨over F H B, A'', v, ⟨s.fsub, fun b o h => (s.fnew b o h).imp_right fun z => z.imp_left fun z => hm b z, fun b hb => by
    have := h3 b hb
    rw [List.nil_append] at this
    exact .inl (hm b (List.mem_append_right _ this)), fun b o h _ => h, fun b h => h⟩, r3, hv, rd⟩
end
end VL
/-! VL: expressions that may change the slots' objects; statements. -/
namespace VL
open PySem PySem.Spec PyProof.Rows L2 FL
def bnd {α β : Type} (r : RX α) (f : α → Om → RX β) : RX β := match r with
  | .ok (a, ω) => f a ω
  | .ex x => .ex x
  | .no => .no
abbrev EAF := Om → RX (List D)
section
variable {α β : Type} {K : Frg} {W : WW} {τ : L2.St} {F F1 H H1 : Hp} {A A1 : List Addr}
theorem VOut.step {r : RX α} {k : α → Hp → List Addr → Hp → Om → Prop} (h : VOut K W τ F A H r k) (s : VStep F A H F1 A1 H1) : VOut K W τ F1 A1 H1 r k := by
  cases r with
  | ok a => obtain ⟨a, ω⟩ := a; exact fun F' A' H' s' => h F' A' H' (s.trans s')
  | ex x => obtain ⟨x, ω⟩ := x; exact fun F' A' H' cls dx s' => h F' A' H' cls dx (s.trans s')
  | no => exact h
theorem VOut.bnd {r : RX α} {f : α → Om → RX β} {k : β → Hp → List Addr → Hp → Om → Prop} (h : VOut K W τ F A H (VL.bnd r f) k) : VOut K W τ F A H r fun a F' A' H' ω' => VOut K W τ F' A' H' (f a ω') k := by
  cases r with
  | ok a => obtain ⟨a, ω⟩ := a; exact fun F' A' H' s _ => VOut.step h s
  | ex x => exact h
  | no => exact h
end
def tEV (K : Frg) (W : WW) (f : EV) : TE := fun τ H Q => ∃ F A ω, VRel K F H A ω τ ∧ VOut K W τ F A H (f ω) fun d F' A' H' ω' => ∀ v, Rep K F' v d → Q v H'
def tEO (K : Frg) (W : WW) (f : EO) : TE := fun τ H Q => ∃ F A ω, VRel K F H A ω τ ∧ VOut K W τ F A H (f ω) fun o F' A' H' ω' => ∀ v B, Own K F' H' v o B → (B ++ A').Nodup → (∀ b ∈ B, b ∈ A ∨ H b = none) → Q v H'
def tEB (K : Frg) (W : WW) (f : EB) : TT := fun τ H Q => ∃ F A ω, VRel K F H A ω τ ∧ VOut K W τ F A H (f ω) fun b F' A' H' ω' => Q b H'
def tEA (K : Frg) (W : WW) (f : EAF) : TA := fun τ H Q => ∃ F A ω, VRel K F H A ω τ ∧ VOut K W τ F A H (f ω) fun ds F' A' H' ω' => ∀ vs, Reps K F' vs ds → Q vs H'
def XV (X : Cx) (W : WW) (e : Expr) (f : EV) : Prop := PE X e (tEV X.K W f)
def XO (X : Cx) (W : WW) (e : Expr) (f : EO) : Prop := PE X e (tEO X.K W f)
def XB (X : Cx) (W : WW) (e : Expr) (f : EB) : Prop := PT X e (tEB X.K W f)
def XW (X : Cx) (W : WW) (e : Expr) (f : EB) : Prop := PW X e (tEB X.K W f)
def XA (X : Cx) (W : WW) (es : List Expr) (f : EAF) : Prop := PA X es (tEA X.K W f)
/-! ### pure expressions among them -/
def liA (f : PEF) : EV := fun ω => match f (viewA ω) with
  | .ok d => if flat d = true then .ok (d, ω) else .no
  | .ex x => if flatL (x.fs.map (·.2)) = true then .ex (x, ω) else .no
  | .no => .no
def liD (f : PEF) : EV := fun ω => match f (viewD ω) with
  | .ok d => .ok (d, ω)
  | .ex x => .ex (x, ω)
  | .no => .no
def loA (f : POF) : EO := fun ω => match f (viewA ω) with
  | .ok d => if flatO d = true then .ok (d, ω) else .no
  | .ex x => if flatL (x.fs.map (·.2)) = true then .ex (x, ω) else .no
  | .no => .no
def loD (f : POF) : EO := fun ω => match f (viewD ω) with
  | .ok d => .ok (d, ω)
  | .ex x => .ex (x, ω)
  | .no => .no
def lbA (f : PBF) : EB := fun ω => match f (viewA ω) with
  | .ok d => .ok (d, ω)
  | .ex x => if flatL (x.fs.map (·.2)) = true then .ex (x, ω) else .no
  | .no => .no
def laA (f : PAF) : EAF := fun ω => match f (viewA ω) with
  | .ok d => if flatL d = true then .ok (d, ω) else .no
  | .ex x => if flatL (x.fs.map (·.2)) = true then .ex (x, ω) else .no
  | .no => .no
def laD (f : PAF) : EAF := fun ω => match f (viewD ω) with
  | .ok d => .ok (d, ω)
  | .ex x => .ex (x, ω)
  | .no => .no
section
variable {X : Cx} {W : WW} {e : Expr} {es : List Expr}
theorem e_A {f : PEF} (h : PD X W e f) : XV X W e (liA f) := by
  refine FL.PE.imp h fun τ H Q ⟨F, A, ω, r, k⟩ => ⟨over F H A, viewA ω, r.still.1, r.still.2, ?_⟩
  unfold liA at k
  cases q : f (viewA ω) with
  | ok d =>
    simp only [q] at k
    split at k
    · rename_i hf
      intro G H' s v rv
      obtain ⟨s1, r1, low⟩ := r.awake s
      exact k _ _ _ s1 r1 v (Rep.low low rv hf)
    · exact k.elim
  | ex x =>
    simp only [q] at k
    split at k
    · rename_i hf
      intro G H' cls dx s rx
      obtain ⟨s1, r1, low⟩ := r.awake s
      exact k _ _ _ cls dx s1 r1 (rx.low low hf)
    · exact k.elim
  | no => simp only [q] at k; exact k.elim
theorem e_D {f : PEF} (h : PD X W e f) : XV X W e (liD f) := by
  refine FL.PE.imp h fun τ H Q ⟨F, A, ω, r, k⟩ => ⟨F, viewD ω, r.sub, r.sl.viewD, ?_⟩
  unfold liD at k
  cases q : f (viewD ω) with
  | ok d =>
    simp only [q] at k
    intro G H' s v rv
    obtain ⟨s1, r1⟩ := r.pure s
    exact k _ _ _ s1 r1 v rv
  | ex x =>
    simp only [q] at k
    intro G H' cls dx s rx
    obtain ⟨s1, r1⟩ := r.pure s
    exact k _ _ _ cls dx s1 r1 rx
  | no => simp only [q] at k; exact k.elim
theorem b_A {f : PBF} (h : PB X W e f) : XB X W e (lbA f) := by
  refine FL.PT.imp h fun τ H Q ⟨F, A, ω, r, k⟩ => ⟨over F H A, viewA ω, r.still.1, r.still.2, ?_⟩
  unfold lbA at k
  cases q : f (viewA ω) with
  | ok d =>
    simp only [q] at k
    intro G H' s
    obtain ⟨s1, r1, low⟩ := r.awake s
    exact k _ _ _ s1 r1
  | ex x =>
    simp only [q] at k
    split at k
    · rename_i hf
      intro G H' cls dx s rx
      obtain ⟨s1, r1, low⟩ := r.awake s
      exact k _ _ _ cls dx s1 r1 (rx.low low hf)
    · exact k.elim
  | no => simp only [q] at k; exact k.elim
theorem o_A {f : POF} (h : PO X W e f) : XO X W e (loA f) := by
  refine FL.PE.imp h fun τ H Q ⟨F, A, ω, r, k⟩ => ⟨over F H A, viewA ω, r.still.1, r.still.2, ?_⟩
  unfold loA at k
  cases q : f (viewA ω) with
  | ok d =>
    simp only [q] at k
    split at k
    · rename_i hf
      intro G H' s v B ow fr
      obtain ⟨s1, r1, low⟩ := r.awake s
      refine k _ _ _ s1 r1 v B (Own.low low (fun b o h => ?_) ow hf) (fresh_apart r fr) fun b hb => .inr (fr.2 b hb)
      by_cases hb : b ∈ A
      · rw [under_in hb] at h; cases h
      · rw [under_out hb] at h; exact h
    · exact k.elim
  | ex x =>
    simp only [q] at k
    split at k
    · rename_i hf
      intro G H' cls dx s rx
      obtain ⟨s1, r1, low⟩ := r.awake s
      exact k _ _ _ cls dx s1 r1 (rx.low low hf)
    · exact k.elim
  | no => simp only [q] at k; exact k.elim
theorem o_D {f : POF} (h : PO X W e f) : XO X W e (loD f) := by
  refine FL.PE.imp h fun τ H Q ⟨F, A, ω, r, k⟩ => ⟨F, viewD ω, r.sub, r.sl.viewD, ?_⟩
  unfold loD at k
  cases q : f (viewD ω) with
  | ok d =>
    simp only [q] at k
    intro G H' s v B ow fr
    obtain ⟨s1, r1⟩ := r.pure s
    exact k _ _ _ s1 r1 v B ow (fresh_apart r fr) fun b hb => .inr (fr.2 b hb)
  | ex x =>
    simp only [q] at k
    intro G H' cls dx s rx
    obtain ⟨s1, r1⟩ := r.pure s
    exact k _ _ _ cls dx s1 r1 rx
  | no => simp only [q] at k; exact k.elim
/-- data as an object, an object as data -/
def eoD (f : EV) : EO := fun ω => bnd (f ω) fun d ω => .ok (.d d, ω)
def evO (f : EO) : EV := fun ω => bnd (f ω) fun o ω => .ok (frz o, ω)
theorem o_V {f : EV} (h : XV X W e f) : XO X W e (eoD f) := by
  refine FL.PE.imp h fun τ H Q ⟨F, A, ω, r, k⟩ => ⟨F, A, ω, r, (VOut.bnd k).imp fun d F' A' H' ω' s r' k v rv => ?_⟩
  exact k F' A' H' .refl r' v [] (.d rv) (by simpa using r'.nd) (fun b h => by simp at h)
theorem e_O {f : EO} (h : XO X W e f) : XV X W e (evO f) := by
  refine FL.PE.imp h fun τ H Q ⟨F, A, ω, r, k⟩ => ⟨F, A, ω, r, ?_⟩
  revert k
  unfold evO
  cases f ω with
  | ok p =>
    obtain ⟨o, ω'⟩ := p
    intro k F' A' H' s r' v B ow nd hb
    obtain ⟨s2, r2, rd⟩ := r'.settle ow nd
    refine k (over F' H' B) A' H' ⟨fun b o h => s2.fsub b o (s.fsub b o h), fun b o h => ?_, s.anew, s.keep, s.alive⟩ r2 v rd
    by_cases z : b ∈ B
    · rcases hb b z with q | q
      · exact .inr (.inl q)
      · exact .inr (.inr q)
    · rw [over_out z] at h; exact s.fnew b o h
  | ex x => exact id
  | no => exact id
/-- a name's object leaves its slot; a name's object is held still from now on -/
def cMv (i : Nat) : EO := fun ω => match ω[i]? with
  | some (some o) => .ok (o, ω.set i none)
  | _ => .no
def cFz (i : Nat) : EV := fun ω => match ω[i]? with
  | some (some o) => .ok (frz o, ω.set i (some (.d (frz o))))
  | _ => .no
theorem o_mv (i : Nat) {x : Str} {pos : Pos} (hN : X.N[i]? = some x := by rfl) (hv : Vis X.env.scope x := by first | exact Or.inl rfl | exact Or.inr (Or.inl rfl) | exact Or.inr (Or.inr rfl)) (hd : (x == ("__debug__" : Str)) = false := by decide)
    (hcd : (x == ("__classdict__" : Str)) = false := by decide) : XO X W (.Name x pos) (cMv i) := by
  refine FL.PE.imp (pe_var hN hv hd hcd) fun τ H Q ⟨F, A, ω, r, k⟩ => ?_
  unfold cMv at k
  split at k
  · rename_i o hu
    obtain ⟨v, B, A', h1, ow, r', nd, hm⟩ := r.take hu
    refine ⟨v, h1, k F A' H ⟨fun _ _ h => h, fun _ _ h => .inl h, fun b h => .inl (hm b (List.mem_append_right _ h)), fun _ _ h _ => h, fun _ h => h⟩ r' v B ow nd fun b hb => .inl (hm b (List.mem_append_left _ hb))⟩
  · exact k.elim
/-! ### compound expressions -/
def eBin (g : G2) (fa fb : EV) : EV := fun ω => bnd (fa ω) fun x ω => bnd (fb ω) fun y ω => match g x y with
  | some o => .ok (frz o, ω)
  | none => .no
theorem two_e {g : G2} {fa fb : EV} {τ : L2.St} {H : Hp} {Q : VK} (h : tEV X.K W (eBin g fa fb) τ H Q) : tEV X.K W fa τ H fun x H1 => tEV X.K W fb τ H1 fun y H2 => r2 X.K g x y H2 Q := by
  obtain ⟨F, A, ω, r, k⟩ := h
  refine ⟨F, A, ω, r, (VOut.bnd k).imp fun dx F1 A1 H1 ω1 s1 r1 k1 x rx => ⟨F1, A1, ω1, r1, (VOut.bnd k1).imp fun dy F2 A2 H2 ω2 s2 r2 k2 y ry => ?_⟩⟩
  split at k2
  · rename_i o e
    refine ⟨F2, dx, dy, o, r2.sub, rx.mono s2.fsub, ry, e, fun F3 H3 v B s3 ow fr => ?_⟩
    have s4 := s3.freeze fr.2
    obtain ⟨s5, r5⟩ := r2.pure s4
    exact k2 _ _ _ s5 r5 v (ow.frz (over_sub s3.sub B) fun b hb => over_in hb)
  · exact k2.elim
variable {a b : Expr} {fa fb : EV} {pos : Pos}
theorem e_op {op : Operator} {g : G2} (ho : VOp X (binaryOp op) g) (ha : XV X W a fa) (hb : XV X W b fb) : XV X W (.BinOp a op b pos) (eBin g fa fb) :=
  FL.PE.imp (pe_op ho ha hb) fun _ _ _ h => two_e h
theorem e_cmp {op : CmpOp} {g : G2} (ho : VOp X (compareOp op) g) (ha : XV X W a fa) (hb : XV X W b fb) (hm : behindInMarks op b = false) : XV X W (.Compare a [op] [b] pos) (eBin g fa fb) :=
  FL.PE.imp (pe_cmpR ho ha hb hm) fun _ _ _ h => two_e h
def eB (f : EV) : EB := fun ω => bnd (f ω) fun d ω => match asB d with
  | some b => .ok (b, ω)
  | none => .no
def eAnd (f g : EB) : EB := fun ω => bnd (f ω) fun b ω => if b = true then g ω else .ok (false, ω)
def eOr (f g : EB) : EB := fun ω => bnd (f ω) fun b ω => if b = true then .ok (true, ω) else g ω
def eNot (f : EB) : EB := fun ω => bnd (f ω) fun b ω => .ok (!b, ω)
variable {fA fB : EB} {rest : List Expr}
def eIf {α : Type} (c : EB) (f g : Om → RX α) : Om → RX α := fun ω => bnd (c ω) fun b ω => if b = true then f ω else g ω
def eAndV (f g : EV) : EV := fun ω => bnd (eB f ω) fun b ω => if b = true then g ω else .ok (.bl false, ω)
def eOrV (f g : EV) : EV := fun ω => bnd (eB f ω) fun b ω => if b = true then .ok (.bl true, ω) else g ω
def eaNil : EAF := fun ω => .ok ([], ω)
def eaCons (f : EV) (g : EAF) : EAF := fun ω => bnd (f ω) fun d ω => bnd (g ω) fun ds ω => .ok (d :: ds, ω)
variable {fs : EAF}
theorem ea_nil : XA X W [] eaNil := PA.imp pa_nil fun τ H Q ⟨F, A, ω, r, k⟩ => k F A H .refl r [] .nil
theorem ea_cons {fe : EV} (ha : XV X W e fe) (hr : XA X W es fs) (hs : starEach (e :: es) X.env = (false, eval e X.env) :: starEach es X.env := by rfl) : XA X W (e :: es) (eaCons fe fs) := by
  refine PA.imp (pa_cons ha hr hs) fun τ H Q ⟨F, A, ω, r, k⟩ => ⟨F, A, ω, r, (VOut.bnd k).imp fun d F1 A1 H1 ω1 s1 r1 k1 v rv => ⟨F1, A1, ω1, r1, (VOut.bnd k1).imp fun ds F2 A2 H2 ω2 s2 r2 k2 vs rs => k2 _ _ _ .refl r2 (v :: vs) (.cons (rv.mono s2.fsub) rs)⟩⟩
def eTup (f : EAF) : EV := fun ω => bnd (f ω) fun ds ω => if ds.length ≤ sizeLine then .ok (.tup ds, ω) else .no
theorem e_tup {x1} (h : XA X W es fs) : XV X W (.Tuple es x1 pos) (eTup fs) := by
  refine FL.PE.imp (pe_tup h) fun τ H Q ⟨F, A, ω, r, k⟩ => ⟨F, A, ω, r, (VOut.bnd k).imp fun ds F1 A1 H1 ω1 s1 r1 k1 vs rs => ?_⟩
  split at k1
  · rename_i hz
    refine ⟨by rw [rs.length]; exact hz, fun p hp => ?_⟩
    have s2 := PStep.newF (o := .tup vs) r1.sub hp
    obtain ⟨s3, r3⟩ := r1.pure s2
    exact k1 _ _ _ s3 r3 _ (.tup (.of upd_same) (rs.mono s2.fsub))
  · exact k1.elim
/-- objects, from the left -/
abbrev EOAF := Om → RX (List O)
def tEOA (K : Frg) (W : WW) (f : EOAF) : TA := fun τ H Q => ∃ F A ω, VRel K F H A ω τ ∧ VOut K W τ F A H (f ω) fun os F' A' H' ω' => ∀ vs B, Owns K F' H' vs os B → (B ++ A').Nodup → (∀ b ∈ B, b ∈ A ∨ H b = none) → Q vs H'
def XOs (X : Cx) (W : WW) (es : List Expr) (f : EOAF) : Prop := PA X es (tEOA X.K W f)
def eoNil : EOAF := fun ω => .ok ([], ω)
def eoCons (f : EO) (g : EOAF) : EOAF := fun ω => bnd (f ω) fun d ω => bnd (g ω) fun ds ω => .ok (d :: ds, ω)
theorem eo_nil : XOs X W [] eoNil := PA.imp pa_nil fun τ H Q ⟨F, A, ω, r, k⟩ => k F A H .refl r [] [] .nil (by simpa using r.nd) fun b h => by simp at h
theorem eo_cons {f : EO} {g : EOAF} (ha : XO X W e f) (hr : XOs X W es g) (hs : starEach (e :: es) X.env = (false, eval e X.env) :: starEach es X.env := by rfl) : XOs X W (e :: es) (eoCons f g) := by
  refine PA.imp (pa_cons ha hr hs) fun τ H Q ⟨F, A, ω, r, k⟩ => ⟨F, A, ω, r, (VOut.bnd k).imp fun o F1 A1 H1 ω1 s1 r1 k1 v B ow nd hB => ⟨F1, A1, ω1, r1, (VOut.bnd k1).imp fun os F2 A2 H2 ω2 s2 r2 k2 vs C ows nd2 hC => ?_⟩⟩
  have hd := nodup_apart nd
  have there : ∀ b ∈ B, ∃ u, H1 b = some u := fun b hb => let ⟨⟨u, h, _⟩, _⟩ := ow.at b hb; ⟨u, h⟩
  have BC : ∀ b ∈ B, b ∉ C := fun b hb hc => by
    rcases hC b hc with z | z
    · exact hd b hb z
    · obtain ⟨u, hu⟩ := there b hb
      rw [hu] at z; cases z
  have BA := s2.apart hd there
  refine k2 _ _ _ .refl r2 (v :: vs) (B ++ C) (.cons (ow.frame hd s2) ows) ?_ fun b hb => ?_
  · rw [List.append_assoc]
    exact nodup_join (List.nodup_append.mp nd).1 nd2 fun b hb h => by
      rcases List.mem_append.mp h with z | z
      · exact BC b hb z
      · exact BA b hb z
  · rcases List.mem_append.mp hb with z | z
    · exact hB b z
    · rcases hC b z with q | q
      · exact s1.anew b q
      · exact .inr (s1.alive b q)
def eLst (f : EOAF) : EO := fun ω => bnd (f ω) fun os ω => if os.length ≤ sizeLine then .ok (.l os, ω) else .no
/-- a tuple whose parts are objects -/
def eTupO (f : EOAF) : EO := fun ω => bnd (f ω) fun os ω => if os.length ≤ sizeLine then .ok (.t os, ω) else .no
theorem eo_tup {g : EOAF} {x1} (h : XOs X W es g) : XO X W (.Tuple es x1 pos) (eTupO g) := by
  refine FL.PE.imp (pe_tup h) fun τ H Q ⟨F, A, ω, r, k⟩ => ⟨F, A, ω, r, (VOut.bnd k).imp fun os F1 A1 H1 ω1 s1 r1 k1 vs B ows nd hB => ?_⟩
  split at k1
  · rename_i hz
    refine ⟨by rw [ows.length]; exact hz, fun p hp => ?_⟩
    have s2 := PStep.newF (o := .tup vs) r1.sub hp
    obtain ⟨s3, r3⟩ := r1.pure s2
    exact k1 _ _ _ s3 r3 _ B (.t upd_same (ows.pstep s2)) nd hB
  · cases k1
/-- a built-in upon what may change -/
def eCB (g : GL) (fs : EAF) : EO := fun ω => bnd (fs ω) fun ds ω => match g ds with
  | some o => .ok (o, ω)
  | none => .no
theorem cb_rd_e {g : GL} {τ : L2.St} {H : Hp} {Q : VK} (h : tEO X.K W (eCB g fs) τ H Q) : tCB (rC X.K g) (tEA X.K W fs) τ H Q := by
  obtain ⟨F, A, ω, r, k⟩ := h
  refine ⟨F, A, ω, r, (VOut.bnd k).imp fun ds F1 A1 H1 ω1 s1 r1 k1 vs rs => ?_⟩
  split at k1
  · rename_i o e
    refine ⟨F1, ds, o, r1.sub, rs, e, fun F' H' v B s' ow fr => ?_⟩
    obtain ⟨s2, r2⟩ := r1.pure s'
    exact k1 _ _ _ s2 r2 v B ow (fresh_apart r1 fr) fun b hb => .inr (s1.alive b (fr.2 b hb))
  · exact k1.elim
section
variable {g : GL} {x : Str} {p : Pos} {id : String}
theorem eo_callB (hc : VCall X (.builtin id) g) (hg : Gl X x) (hm : X.mg x = none) (hv : bootBuiltins x = some (.builtin id)) (ha : XA X W (e :: es) fs) (hn : x ≠ "__name__" := by decide) (hdb : (x == ("__debug__" : Str)) = false := by decide)
    (hs : starEach (e :: es) X.env = (false, eval e X.env) :: starEach es X.env := by rfl) (hpl : (backTo pos (starEach es X.env)).any (·.1) = false := by rfl) : XO X W (.Call (.Name x p) (e :: es) [] pos) (eCB g fs) :=
  FL.PE.imp (pe_callB hc hg hm hv ha hn hdb hs hpl) fun _ _ _ h => cb_rd_e h
theorem eo_callTy (hc : VCall X (.type id) g) (hg : Gl X x) (hm : X.mg x = none) (hv : bootBuiltins x = some (.type id)) (ha : XA X W (e :: es) fs) (hn : x ≠ "__name__" := by decide) (hdb : (x == ("__debug__" : Str)) = false := by decide)
    (hs : starEach (e :: es) X.env = (false, eval e X.env) :: starEach es X.env := by rfl) (hpl : (backTo pos (starEach es X.env)).any (·.1) = false := by rfl) : XO X W (.Call (.Name x p) (e :: es) [] pos) (eCB g fs) :=
  FL.PE.imp (pe_callTy hc hg hm hv ha hn hdb hs hpl) fun _ _ _ h => cb_rd_e h
end
end
end VL
/-! VL: statements. -/
namespace VL
open PySem PySem.Spec PyProof.Rows L2 FL
theorem Pin.refl (P : List Nat) (τ : L2.St) : Pin P τ τ := fun _ _ => rfl
theorem Pin.set {P : List Nat} {τ : L2.St} {i : Nat} {x : Option V} (h : i ∉ P) : Pin P τ (τ.set i x) := fun j hj => List.getElem?_set_ne fun (e : i = j) => h (by rw [e]; exact hj)
def VFin (K : Frg) (W : WW) (P : List Nat) (τ : L2.St) (F : Hp) (A : List Addr) (H : Hp) (r : RX Fl) (D : Ends) : Prop := match r with
  | .ok (.nx, ω) => ∀ F' A' H' τ', VStep F A H F' A' H' → VRel K F' H' A' ω τ' → Pin P τ τ' → D.nx τ' H'
  | .ok (.bk, ω) => ∀ F' A' H' τ', VStep F A H F' A' H' → VRel K F' H' A' ω τ' → Pin P τ τ' → D.bk τ' H'
  | .ok (.ct, ω) => ∀ F' A' H' τ', VStep F A H F' A' H' → VRel K F' H' A' ω τ' → Pin P τ τ' → D.ct τ' H'
  | .ok (.rt o, ω) => ∀ F' A' B H' v τ', VStep F A H F' (B ++ A') H' → VRel K F' H' A' ω τ' → Pin P τ τ' → Own K F' H' v o B → (B ++ A').Nodup → D.rt v H'
  | .ex (x, ω) => ∀ F' A' H' τ' cls dx, VStep F A H F' A' H' → VRel K F' H' A' ω τ' → Pin P τ τ' → ExR K F' H' cls dx x → W cls dx τ' H'
  | .no => False
def tVS (K : Frg) (W : WW) (P : List Nat) (f : VS) : TS := fun D τ H => ∃ F A ω, VRel K F H A ω τ ∧ VFin K W P τ F A H (f ω) D
def SV (X : Cx) (W : WW) (P : List Nat) (st : Stmt) (f : VS) : Prop := PS X st (tVS X.K W P f)
def SVs (X : Cx) (W : WW) (P : List Nat) (st : List Stmt) (f : VS) : Prop := PSs X st (tVS X.K W P f)
section
variable {K : Frg} {W : WW} {P : List Nat} {τ τ1 : L2.St} {F F1 H H1 : Hp} {A A1 : List Addr} {D : Ends}
theorem VFin.step {r : RX Fl} (h : VFin K W P τ F A H r D) (s : VStep F A H F1 A1 H1) (p : Pin P τ τ1) : VFin K W P τ1 F1 A1 H1 r D := by
  cases r with
  | ok a =>
    obtain ⟨fl, ω⟩ := a
    cases fl with
    | nx => exact fun F' A' H' τ' s' r' p' => h F' A' H' τ' (s.trans s') r' (p.trans p')
    | bk => exact fun F' A' H' τ' s' r' p' => h F' A' H' τ' (s.trans s') r' (p.trans p')
    | ct => exact fun F' A' H' τ' s' r' p' => h F' A' H' τ' (s.trans s') r' (p.trans p')
    | rt o => exact fun F' A' B H' v τ' s' r' p' => h F' A' B H' v τ' (s.trans s') r' (p.trans p')
  | ex x => obtain ⟨x, ω⟩ := x; exact fun F' A' H' τ' cls dx s' r' p' => h F' A' H' τ' cls dx (s.trans s') r' (p.trans p')
  | no => exact h
/-- behind an expression -/
theorem VFin.bnd {α : Type} {r : RX α} {f : α → Om → RX Fl} (h : VFin K W P τ F A H (VL.bnd r f) D) : VOut K W τ F A H r fun a F' A' H' ω' => VFin K W P τ F' A' H' (f a ω') D := by
  cases r with
  | ok a => obtain ⟨a, ω⟩ := a; exact fun F' A' H' s _ => VFin.step h s (.refl _ _)
  | ex x => obtain ⟨x, ω⟩ := x; exact fun F' A' H' cls dx s r rx => h F' A' H' τ cls dx s r (.refl _ _) rx
  | no => exact h
end
def cSeq (f g : VS) : VS := fun ω => bnd (f ω) fun fl ω => match fl with
  | .nx => g ω
  | fl => .ok (fl, ω)
def cNx : VS := fun ω => .ok (.nx, ω)
section
variable {X : Cx} {W : WW} {P : List Nat} {st : Stmt} {rest : List Stmt} {f g : VS} {e : Expr} {pos : Pos}
theorem ss_nil : SVs X W P [] cNx := FL.PSs.imp pss_nil fun D τ H ⟨F, A, ω, r, k⟩ => k F A H τ .refl r (.refl _ _)
theorem ss_cons (h1 : SV X W P st f) (h2 : SVs X W P rest g) : SVs X W P (st :: rest) (cSeq f g) := by
  refine FL.PSs.imp (pss_cons h1 h2) fun D τ H ⟨F, A, ω, r, k⟩ => ⟨F, A, ω, r, ?_⟩
  revert k
  unfold cSeq
  cases f ω with
  | ok a =>
    obtain ⟨fl, ω1⟩ := a
    cases fl with
    | nx => exact fun k F1 A1 H1 τ1 s1 r1 p1 => ⟨F1, A1, ω1, r1, VFin.step k s1 p1⟩
    | bk => exact id
    | ct => exact id
    | rt o => exact id
  | ex x => exact id
  | no => exact id
theorem ss_one (h1 : SV X W P st f) : SVs X W P [st] f := pss_one h1
def cBk : VS := fun ω => .ok (.bk, ω)
def cCt : VS := fun ω => .ok (.ct, ω)
def cNever : VS := fun _ => .no
def cDrop (f : EO) : VS := fun ω => bnd (f ω) fun _ ω => .ok (.nx, ω)
def cRet (f : EO) : VS := fun ω => bnd (f ω) fun o ω => .ok (.rt o, ω)
theorem VStep.wide {F : Hp} {A : List Addr} {H F' : Hp} {A' B : List Addr} {H' : Hp} (s : VStep F A H F' A' H') (hb : ∀ b ∈ B, b ∈ A ∨ H b = none) : VStep F A H F' (B ++ A') H' :=
  ⟨s.fsub, s.fnew, fun b h => (List.mem_append.mp h).elim (hb b) (s.anew b), s.keep, s.alive⟩
theorem s_ret {fe : EO} (he : XO X W e fe) : SV X W P (.Return (some e) pos) (cRet fe) := by
  refine FL.PS.imp (ps_ret he) fun D τ H ⟨F, A, ω, r, k⟩ => ⟨F, A, ω, r, ?_⟩
  revert k
  unfold cRet
  cases fe ω with
  | ok p =>
    obtain ⟨o, ω1⟩ := p
    exact fun k F1 A1 H1 s1 r1 v B ow nd hB => k F1 A1 B H1 v τ (s1.wide hB) r1 (.refl _ _) ow nd
  | ex x => obtain ⟨x, ω⟩ := x; exact fun k F' A' H' cls dx s r rx => k F' A' H' τ cls dx s r (.refl _ _) rx
  | no => exact id
def cRetN : VS := fun ω => .ok (.rt (.d .non), ω)
def cIfS (c : EB) (f g : VS) : VS := fun ω => bnd (c ω) fun b ω => if b = true then f ω else g ω
theorem s_if {c : Expr} {a b : List Stmt} {fc : EB} (hc : XB X W c fc) (ha : SVs X W P a f) (hb : SVs X W P b g) : SV X W P (.If c a b pos) (cIfS fc f g) := by
  refine FL.PS.imp (ps_if hc ha hb) fun D τ H ⟨F, A, ω, r, k⟩ => ⟨F, A, ω, r, (VFin.bnd k).imp fun c F1 A1 H1 ω1 s1 r1 k1 => ?_⟩
  cases c with
  | true => exact ⟨F1, A1, ω1, r1, k1⟩
  | false => exact ⟨F1, A1, ω1, r1, k1⟩
def cSet (i : Nat) (f : EO) : VS := fun ω => bnd (f ω) fun o ω => .ok (.nx, ω.set i (some o))
theorem s_set (i : Nat) {fe : EO} {x : Str} {pos' : Pos} (he : XO X W e fe) (hN : X.N.Nodup) (hP : i ∉ P := by decide) (hi : X.N[i]? = some x := by rfl) (hx : Loc X.env.scope x := by first | exact Or.inl rfl | exact Or.inr rfl) (hs : swapsWith e (some (.Name x pos')) pos.line X.env = pure false := by rfl)
    (hf : X.fn x = true ∨ X.env.scope.names.lookup x = some .local := by first | exact .inl rfl | exact .inr rfl | assumption) : SV X W P (.Assign [.Name x pos'] e pos) (cSet i fe) := by
  refine FL.PS.imp (ps_set hN hi hx he hs hf) fun D τ H ⟨F, A, ω, r, k⟩ => ⟨F, A, ω, r, ?_⟩
  revert k
  unfold cSet
  cases fe ω with
  | ok p =>
    obtain ⟨o, ω1⟩ := p
    intro k F1 A1 H1 s1 r1 v B ow nd hB
    obtain ⟨A2, r2, h2⟩ := r1.set ow nd i
    exact k F1 A2 H1 _ ((s1.wide hB).less h2) r2 (.set hP)
  | ex x => obtain ⟨x, ω⟩ := x; exact fun k F' A' H' cls dx s r rx => k F' A' H' τ cls dx s r (.refl _ _) rx
  | no => exact id
def cAug (i : Nat) (g : G2) (f : EV) : VS := fun ω => match ω[i]? with
  | some (some (.d x)) => bnd (f ω) fun y ω => match g x y with
    | some (.d d) => .ok (.nx, ω.set i (some (.d d)))
    | _ => .no
  | _ => .no
theorem SlO.get : ∀ {K : Frg} {F H : Hp} {ω : Om} {τ : L2.St} {A : List Addr} {i : Nat} {o : O}, SlO K F H ω τ A → ω[i]? = some (some o) → ∃ v B, τ[i]? = some (some v) ∧ Own K F H v o B ∧ ∀ b ∈ B, b ∈ A
  | _, _, _, _, _, _, i, _, .nil, e => by simp at e
  | _, _, _, _, _, _, 0, _, .un r, e => by cases e
  | _, _, _, _, _, _, 0, _, .v ow r, e => by cases e; exact ⟨_, _, rfl, ow, fun b h => List.mem_append_left _ h⟩
  | _, _, _, _, _, _, i + 1, _, .un r, e => by
    obtain ⟨v, B, h1, h2, h3⟩ := SlO.get (i := i) r (by simpa using e)
    exact ⟨v, B, by simpa using h1, h2, h3⟩
  | _, _, _, _, _, _, i + 1, _, .v ow r, e => by
    obtain ⟨v, B, h1, h2, h3⟩ := SlO.get (i := i) r (by simpa using e)
    exact ⟨v, B, by simpa using h1, h2, fun b h => List.mem_append_right _ (h3 b h)⟩
theorem s_aug (i : Nat) {fe : EV} {x : Str} {pos' : Pos} {op : Operator} {g : G2} (ho : VOp X (inplaceOp op) g) (he : XV X W e fe) (hN : X.N.Nodup) (hP : i ∉ P := by decide) (hi : X.N[i]? = some x := by rfl) (hx : Loc X.env.scope x := by first | exact Or.inl rfl | exact Or.inr rfl)
    (hf : X.fn x = true ∨ X.env.scope.names.lookup x = some .local := by first | exact .inl rfl | exact .inr rfl | assumption) : SV X W P (.AugAssign (.Name x pos') op e pos) (cAug i g fe) := by
  refine FL.PS.imp (ps_aug hN hi hx he (show PIp X op (r2 X.K g) from fun pins s σ H x y v u Q I rx ry q => ho pins s σ H x y v u Q I rx ry q) hf) fun D τ H ⟨F, A, ω, r, k⟩ => ?_
  unfold cAug at k
  split at k
  · rename_i dx hx
    obtain ⟨v, B, hv, ow, _⟩ := r.sl.get hx
    cases ow with
    | d rv =>
      refine ⟨v, hv, F, A, ω, r, (VFin.bnd k).imp fun dy F1 A1 H1 ω1 s1 r1 k1 w rw => ?_⟩
      split at k1
      · rename_i d e1
        refine ⟨F1, dx, dy, .d d, r1.sub, rv.mono s1.fsub, rw, e1, fun F2 H2 u C s2 ow fr => ?_⟩
        obtain ⟨s3, r3⟩ := r1.pure s2
        obtain ⟨A4, r4, h4⟩ := r3.set (B := C) ow (fresh_apart r1 fr) i
        exact k1 F2 A4 H2 _ ((s3.wide fun b hb => .inr (fr.2 b hb)).less h4) r4 (.set hP)
      · exact k1.elim
  · exact k.elim
theorem iv_addI : VOp X (inplaceOp .Add) gAddI := .i0 if_addI
theorem iv_subI : VOp X (inplaceOp .Sub) gSub := .i0 if_subI
/-! ### targets that take data -/
theorem ItmD.mono {K : Frg} {F F' : Hp} {v : V} {it : ItD} (h : ItmD K F v it) (s : Sub F F') : ItmD K F' v it := by
  cases it with
  | one d => exact Rep.mono s h
  | tup ds => obtain ⟨a, vs, e, q, r⟩ := h; exact ⟨a, vs, e, SqT.sub s q, r.mono s⟩
abbrev GF := ItD → Om → Option Om
abbrev GsF := List D → Om → Option Om
/-- the slots is get values, the rest stays -/
def tGV (K : Frg) (is : List Nat) (g : GF) : TG := fun v τ H Q => ∃ F A ω it ω', VRel K F H A ω τ ∧ ItmD K F v it ∧ g it ω = some ω' ∧
  ∀ τ' F' A' H', VStep F A H F' A' H' → VRel K F' H' A' ω' τ' → Dif is τ τ' → Q τ' H'
def tGVs (K : Frg) (is : List Nat) (g : GsF) : TGs := fun vs τ H Q => ∃ F A ω ds ω', VRel K F H A ω τ ∧ Reps K F vs ds ∧ g ds ω = some ω' ∧
  ∀ τ' F' A' H', VStep F A H F' A' H' → VRel K F' H' A' ω' τ' → Dif is τ τ' → Q τ' H'
def GV (X : Cx) (tg : Expr) (is : List Nat) (g : GF) : Prop := PG X tg (tGV X.K is g)
def GVs (X : Cx) (tg : List Expr) (is : List Nat) (g : GsF) : Prop := PGs X tg (tGVs X.K is g)
def gN (i : Nat) : GF := fun it ω => some (ω.set i (some (.d (itD it))))
theorem gv_name (i : Nat) {x : Str} {pos : Pos} (hN : X.N.Nodup) (hi : X.N[i]? = some x := by rfl) (hx : Loc X.env.scope x := by first | exact Or.inl rfl | exact Or.inr rfl) (hf : X.fn x = true ∨ X.env.scope.names.lookup x = some .local := by first | exact .inl rfl | exact .inr rfl | assumption) : GV X (.Name x pos) [i] (gN i) := by
  refine FL.PG.imp (pg_name hN hi hx hf) fun v τ H Q ⟨F, A, ω, it, ω', r, ri, e, k⟩ => ?_
  cases e
  obtain ⟨A', r', h'⟩ := r.set (B := []) (.d ri.d) (by simpa using r.nd) i
  exact k _ F A' H ⟨fun _ _ h => h, fun _ _ h => .inl h, fun b hb => .inl (by simpa using h' b hb), fun _ _ h _ => h, fun _ h => h⟩ r' (set_dif _ _ _)
def gNil : GsF := fun ds ω => match ds with
  | [] => some ω
  | _ => none
def gCons (g : GF) (gs : GsF) : GsF := fun ds ω => match ds with
  | d :: r => (g (.one d) ω).bind fun ω => gs r ω
  | [] => none
theorem gvs_nil : GVs X [] [] gNil := by
  refine FL.PGs.imp pgs_nil fun v τ H Q ⟨F, A, ω, ds, ω', r, rs, e, k⟩ => ?_
  unfold gNil at e
  split at e
  · cases e
    cases rs
    exact ⟨rfl, k τ F A H .refl r (.refl _ _)⟩
  · cases e
theorem gvs_cons {e : Expr} {es : List Expr} {is js : List Nat} {g : GF} {gs : GsF} (h1 : GV X e is g) (h2 : GVs X es js gs)
    (hs : (assignEach (e :: es) X.env).map (·.2) = assign e X.env :: (assignEach es X.env).map (·.2) := by rfl) : GVs X (e :: es) (is ++ js) (gCons g gs) := by
  refine FL.PGs.imp (pgs_cons h1 h2 hs) fun v τ H Q ⟨F, A, ω, ds, ω', r, rs, e, k⟩ => ?_
  unfold gCons at e
  split at e
  · rename_i t tr
    cases rs with
    | cons q qr =>
      obtain ⟨ω1, e1, e⟩ := bind_some e
      exact ⟨_, _, rfl, F, A, ω, .one t, ω1, r, q, e1, fun τ1 F1 A1 H1 s1 r1 d1 => ⟨F1, A1, ω1, tr, ω', r1, qr.mono s1.fsub, e, fun τ2 F2 A2 H2 s2 r2 d2 => k τ2 F2 A2 H2 (s1.trans s2) r2 (d1.trans d2)⟩⟩
  · cases e
def partsD : ItD → Option (List D)
  | .tup ds => some ds
  | .one (.tup ds) => some ds
  | .one (.lst ds) => none
  | _ => none
theorem partsD_ok {K : Frg} {F : Hp} {v : V} {it : ItD} {ds : List D} (r : ItmD K F v it) (e : partsD it = some ds) : ∃ a vs, v = .ref a ∧ SqT K F a vs ∧ Reps K F vs ds := by
  unfold partsD at e
  split at e
  · cases e; exact r
  · cases e
    cases (show Rep K F v _ from r) with
    | tup q rs => exact ⟨_, _, rfl, q, rs⟩
  · cases e
  · cases e
def gT (n : Nat) (gs : GsF) : GF := fun it ω => (partsD it).bind fun ds => if ds.length = n then gs ds ω else none
theorem gv_tup {es : List Expr} {k : Nat} {is : List Nat} {gs : GsF} {n : Nat} {pos : Pos} (hc : X.calm = true) (h : GVs X es is gs)
    (hn : (assignEach es X.env).length = n := by rfl) (hst : (assignEach es X.env).findIdx? (·.1) = none := by rfl) : GV X (.Tuple es k pos) is (gT n gs) := by
  refine FL.PG.imp (pg_tup hc h hn hst) fun v τ H Q ⟨F, A, ω, it, ω', r, ri, e, k⟩ => ?_
  obtain ⟨ds, e1, e⟩ := bind_some e
  split at e
  · rename_i hl
    obtain ⟨a, vs, rfl, q, rs⟩ := partsD_ok ri e1
    exact ⟨a, vs, rfl, SqT.sub r.sub q, by rw [rs.length]; exact hl, F, A, ω, ds, ω', r, rs, e, k⟩
  · cases e
/-- a, b = e -/
def cAsgT (g : GF) (f : EV) : VS := fun ω => bnd (f ω) fun d ω => match g (.one d) ω with
  | some ω => .ok (.nx, ω)
  | none => .no
theorem Dif.pin {is P : List Nat} {τ τ' : L2.St} (d : Dif is τ τ') (h : ∀ i ∈ is, i ∉ P) : Pin P τ τ' := fun i hi => d.2 i fun z => h i z hi
theorem s_asgT {fe : EV} {tg : Expr} {is : List Nat} {gt : GF} (he : XV X W e fe) (hg : GV X tg is gt) (hP : ∀ i ∈ is, i ∉ P := by decide) (hs : swapsWithSole [tg] e pos.line X.env = pure false := by rfl) (hw : swappedStores [tg] e X.env = pure none := by rfl)
    (h1 : (assignEach [tg] X.env).map (·.2) = [assign tg X.env] := by rfl) : SV X W P (.Assign [tg] e pos) (cAsgT gt fe) := by
  refine FL.PS.imp (ps_asg he hg hs hw h1) fun D τ H ⟨F, A, ω, r, k⟩ => ⟨F, A, ω, r, (VFin.bnd k).imp fun d F1 A1 H1 ω1 s1 r1 k1 v rv => ?_⟩
  split at k1
  · rename_i ω2 e2
    exact ⟨F1, A1, ω1, .one d, ω2, r1, rv, e2, fun τ' F' A' H' s2 r2 d2 => k1 F' A' H' τ' s2 r2 (VL.Dif.pin d2 hP)⟩
  · exact k1.elim
end
end VL
/-! VL: what is walked, for, while. -/
namespace VL
open PySem PySem.Spec PyProof.Rows L2 FL
/-- wherever F stands, the iterator J gives these items -/
def VIter (K : Frg) (F0 : Hp) (J : It) (items : List ItD) : Prop := ∀ F H, Sub F0 F → Sub F H → ∀ i : Nat,
  (items.length ≤ i → J.stop i H) ∧ (∀ it, items[i]? = some it → J.go i H ∧ ∀ x H', J.yld i H x H' → ∃ F', PStep F H F' H' ∧ ItmD K F' x it)
abbrev PIF := Sg → R Exn (List ItD)
abbrev XIF := Om → RX (List ItD)
def tPI (K : Frg) (W : WW) (f : PIF) : TI := fun τ H R => ∃ F σ, Sub F H ∧ SlD K F σ τ ∧ Out K W τ F H (f σ) fun items F' H' => ∀ J, VIter K F' J items → R J H'
def tXI (K : Frg) (W : WW) (f : XIF) : TI := fun τ H R => ∃ F A ω, VRel K F H A ω τ ∧ VOut K W τ F A H (f ω) fun items F' A' H' ω' => ∀ J, VIter K F' J items → R J H'
def IP (X : Cx) (W : WW) (tg iter : Expr) (f : PIF) : Prop := PI X tg iter (tPI X.K W f)
def IX (X : Cx) (W : WW) (tg iter : Expr) (f : XIF) : Prop := PI X tg iter (tXI X.K W f)
theorem VIter.mono {K : Frg} {F F' : Hp} {J : It} {items : List ItD} (h : VIter K F J items) (s : Sub F F') : VIter K F' J items := fun G H s1 s2 => h G H (fun b o e => s1 b o (s b o e)) s2
/-! ### each kind -/
theorem viter_l {K : Frg} {F : Hp} {v : V} {d : D} {ds : List D} (r : Rep K F v d) (e : seqD d = some (false, ds)) : ∃ a, v = .ref a ∧ VIter K F (Itl K a) (ds.map .one) ∧ ∀ G H, Sub F G → Sub G H → ∃ vs, SqL K H a vs ∧ Reps K G vs ds := by
  have key : ∃ a, v = .ref a ∧ ∀ G H, Sub F G → Sub G H → ∃ vs, SqL K H a vs ∧ Reps K G vs ds := by
    cases d with
    | lst es =>
      cases e
      cases r with
      | lst q rs => exact ⟨_, rfl, fun G H s1 s2 => ⟨_, .of (s2 _ _ (s1 _ _ q)), rs.mono s1⟩⟩
    | scr ns =>
      cases e
      cases r with
      | scr q => exact ⟨_, rfl, fun G H s1 s2 => ⟨_, SqL.sub s2 (SqL.sub s1 q), Reps.tmap (ad := []) (by rw [List.map_map]; exact scr_ts ns)⟩⟩
    | _ => cases e
  obtain ⟨a, rfl, hk⟩ := key
  refine ⟨a, rfl, fun G H s1 s2 i => ?_, hk⟩
  obtain ⟨ws, w1, w3⟩ := hk G H s1 s2
  refine ⟨fun hl => ⟨ws, w1, by rw [w3.length]; simpa using hl⟩, fun it hi => ?_⟩
  rw [List.getElem?_map] at hi
  obtain ⟨u, hu, rfl⟩ := Option.map_eq_some_iff.mp hi
  obtain ⟨x, hx, rx⟩ := Reps.get w3 hu
  refine ⟨⟨ws, x, w1, hx⟩, fun y H'' hy => ?_⟩
  obtain ⟨rfl, hy⟩ := hy
  have e : y = x := Option.some.inj ((hy ws w1).symm.trans hx)
  subst e
  exact ⟨G, .refl s2, rx⟩
theorem viter_t {K : Frg} {F : Hp} {v : V} {d : D} {ds : List D} (r : Rep K F v d) (e : seqD d = some (true, ds)) : ∃ a, v = .ref a ∧ VIter K F (Itt K a) (ds.map .one) ∧ ∀ G H, Sub F G → Sub G H → ∃ vs, SqT K H a vs ∧ Reps K G vs ds := by
  have key : ∃ a, v = .ref a ∧ ∀ G H, Sub F G → Sub G H → ∃ vs, SqT K H a vs ∧ Reps K G vs ds := by
    cases d with
    | tup es =>
      cases e
      cases r with
      | tup q rs => exact ⟨_, rfl, fun G H s1 s2 => ⟨_, SqT.sub s2 (SqT.sub s1 q), rs.mono s1⟩⟩
    | _ => cases e
  obtain ⟨a, rfl, hk⟩ := key
  refine ⟨a, rfl, fun G H s1 s2 i => ?_, hk⟩
  obtain ⟨ws, w1, w3⟩ := hk G H s1 s2
  refine ⟨fun hl => ⟨ws, w1, by rw [w3.length]; simpa using hl⟩, fun it hi => ?_⟩
  rw [List.getElem?_map] at hi
  obtain ⟨u, hu, rfl⟩ := Option.map_eq_some_iff.mp hi
  obtain ⟨x, hx, rx⟩ := Reps.get w3 hu
  refine ⟨⟨ws, x, w1, hx⟩, fun y H'' hy => ?_⟩
  obtain ⟨rfl, hy⟩ := hy
  have e : y = x := Option.some.inj ((hy ws w1).symm.trans hx)
  subst e
  exact ⟨G, .refl s2, rx⟩
def itR (lo hi : Int) : List ItD := (rangeL lo hi).map fun i => .one (.int i)
theorem viter_r {K : Frg} {F : Hp} (lo hi : Int) : VIter K F (Itr lo (hi - lo).toNat) (itR lo hi) := fun G H s1 s2 i => by
  unfold itR rangeL
  refine ⟨fun hl => ?_, fun it hi => ?_⟩
  · show (hi - lo).toNat ≤ i
    rw [List.length_map, List.length_map, List.length_range] at hl
    exact hl
  rw [List.getElem?_map, List.getElem?_map] at hi
  obtain ⟨u, hu, rfl⟩ := Option.map_eq_some_iff.mp hi
  obtain ⟨j, hj, rfl⟩ := Option.map_eq_some_iff.mp hu
  obtain ⟨h1, h2⟩ := List.getElem?_eq_some_iff.mp hj
  rw [List.length_range] at h1
  rw [List.getElem_range] at h2
  subst h2
  refine ⟨h1, fun x H' hy => ?_⟩
  obtain ⟨rfl, rfl⟩ := hy
  exact ⟨G, .refl s2, .int _⟩
/-! ### the readings behind the arguments -/
abbrev KI := List D → Option (List ItD)
def kSeq : KI := fun ds => match ds with
  | [d] => (seqD d).map fun p => p.2.map .one
  | _ => none
def kRange1 : KI := fun ds => match ds with
  | [.int j] => if inR j then some (itR 0 j) else none
  | _ => none
def kRange2 : KI := fun ds => match ds with
  | [.int i, .int j] => if inR i ∧ inR j then some (itR i j) else none
  | _ => none
def kRev1 : KI := fun ds => match ds with
  | [.int j] => if inR j then some (itR 0 j).reverse else none
  | _ => none
def kRev2 : KI := fun ds => match ds with
  | [.int i, .int j] => if inR i ∧ inR j then some (itR i j).reverse else none
  | _ => none
def kEnum : KI := fun ds => match ds with
  | [d] => (seqD d).map fun p => p.2.mapIdx fun i u => .tup [.int (i : Nat), u]
  | _ => none
def kZip : KI := fun ds => match ds with
  | [d, e] => (match seqD d, seqD e with
    | some (b, us), some (c, ws) => if b = c then some (List.zipWith (fun x y => .tup [x, y]) us ws) else none
    | _, _ => none)
  | _ => none
theorem reps1 {K : Frg} {F : Hp} {vs : List V} {d : D} (r : Reps K F vs [d]) : ∃ v, vs = [v] ∧ Rep K F v d := by
  cases r with
  | cons q r => cases r; exact ⟨_, rfl, q⟩
section
variable {K : Frg} {F H : Hp} {vs : List V} {ds : List D} {items : List ItD} {RR : It → Hp → Prop}
theorem rd_seq {v : V} {d : D} (s : Sub F H) (r : Rep K F v d) (e : kSeq [d] = some items) (k : ∀ J, VIter K F J items → RR J H) :
    (∃ a, v = .ref a ∧ (∃ xs, SqL K H a xs) ∧ RR (Itl K a) H) ∨ (∃ a, v = .ref a ∧ (∃ xs, SqT K H a xs) ∧ RR (Itt K a) H) := by
  obtain ⟨⟨b, us⟩, e1, rfl⟩ := Option.map_eq_some_iff.mp e
  cases b with
  | false =>
    obtain ⟨a, rfl, vi, hk⟩ := viter_l r e1
    obtain ⟨xs, h1, _⟩ := hk F H (fun _ _ h => h) s
    exact .inl ⟨a, rfl, ⟨xs, h1⟩, k _ vi⟩
  | true =>
    obtain ⟨a, rfl, vi, hk⟩ := viter_t r e1
    obtain ⟨xs, h1, _⟩ := hk F H (fun _ _ h => h) s
    exact .inr ⟨a, rfl, ⟨xs, h1⟩, k _ vi⟩
end
section
variable {X : Cx} {W : WW} {tg : Expr} {p pos : Pos}
/-- the pure and the other one -/
def iP (k : KI) (f : PAF) : PIF := fun σ => (f σ).bind fun ds => R.of (k ds)
def iX (k : KI) (f : EAF) : XIF := fun ω => bnd (f ω) fun ds ω => match k ds with
  | some items => .ok (items, ω)
  | none => .no
theorem iP_rd {k : KI} {f : PAF} {τ : L2.St} {H : Hp} {RR : It → Hp → Prop} {T : List V → Hp → Prop} (h : tPI X.K W (iP k f) τ H RR)
    (w : ∀ F1 H1 vs ds items, Sub F1 H1 → Reps X.K F1 vs ds → k ds = some items → (∀ J, VIter X.K F1 J items → RR J H1) → T vs H1) : tPA X.K W f τ H T := by
  obtain ⟨F, σ, s, so, k⟩ := h
  refine ⟨F, σ, s, so, (Out.bind k).imp fun ds F1 H1 s1 k1 vs rs => ?_⟩
  obtain ⟨items, e, k2⟩ := Out.of k1
  exact w F1 H1 vs ds items s1.sub rs e (k2 F1 H1 (.refl s1.sub))
theorem iX_rd {k : KI} {f : EAF} {τ : L2.St} {H : Hp} {RR : It → Hp → Prop} {T : List V → Hp → Prop} (h : tXI X.K W (iX k f) τ H RR)
    (w : ∀ F1 H1 vs ds items, Sub F1 H1 → Reps X.K F1 vs ds → k ds = some items → (∀ J, VIter X.K F1 J items → RR J H1) → T vs H1) : tEA X.K W f τ H T := by
  obtain ⟨F, A, ω, r, k⟩ := h
  refine ⟨F, A, ω, r, (VOut.bnd k).imp fun ds F1 A1 H1 ω1 s1 r1 k1 vs rs => ?_⟩
  split at k1
  · rename_i items e
    exact w F1 H1 vs ds items r1.sub rs e (k1 F1 A1 H1 .refl r1)
  · exact k1.elim
theorem w_range1 {K : Frg} {F H : Hp} {vs : List V} {ds : List D} {items : List ItD} {RR : It → Hp → Prop} (s : Sub F H) (rs : Reps K F vs ds) (e : kRange1 ds = some items) (k : ∀ J, VIter K F J items → RR J H) :
    ∃ j, vs = [V.int j] ∧ -(2 ^ 62) ≤ j ∧ j < 2 ^ 62 ∧ RR (Itr 0 j.toNat) H := by
  unfold kRange1 at e
  split at e
  · rename_i j
    split at e
    · rename_i hb
      cases e
      obtain ⟨v, rfl, r⟩ := reps1 rs
      cases r
      refine ⟨j, rfl, hb.1, hb.2, ?_⟩
      have q := viter_r (K := K) (F := F) 0 j
      rw [Int.sub_zero] at q
      exact k _ q
    · cases e
  · cases e
theorem ip_range1 {a : Expr} {fs : PAF} (hg : Gl X "range") (hm : X.mg "range" = none) (ha : PDs X W [a] fs) (hs : starEach [a] X.env = [(false, eval a X.env)] := by rfl) : IP X W tg (.Call (.Name "range" p) [a] [] pos) (iP kRange1 fs) :=
  FL.PI.imp (pi_range1 hg hm ha hs) fun τ H R h => iP_rd h fun F1 H1 vs ds items s rs e k => w_range1 s rs e k
theorem ix_range1 {a : Expr} {fs : EAF} (hg : Gl X "range") (hm : X.mg "range" = none) (ha : XA X W [a] fs) (hs : starEach [a] X.env = [(false, eval a X.env)] := by rfl) : IX X W tg (.Call (.Name "range" p) [a] [] pos) (iX kRange1 fs) :=
  FL.PI.imp (pi_range1 hg hm ha hs) fun τ H R h => iX_rd h fun F1 H1 vs ds items s rs e k => w_range1 s rs e k
/-! sequences -/
def iS (f : PEF) : PIF := fun σ => (f σ).bind fun d => R.of (kSeq [d])
def iSX (f : EV) : XIF := fun ω => bnd (f ω) fun d ω => match kSeq [d] with
  | some items => .ok (items, ω)
  | none => .no
theorem ip_seq {l : Expr} {f : PEF} (hl : PD X W l f) : IP X W tg l (iS f) := by
  refine FL.PI.imp (pi_seq hl) fun τ H R ⟨F, σ, s, so, k⟩ => ⟨F, σ, s, so, (Out.bind k).imp fun d F1 H1 s1 k1 v rv => ?_⟩
  obtain ⟨items, e, k2⟩ := Out.of k1
  exact rd_seq s1.sub rv e (k2 F1 H1 (.refl s1.sub))
theorem ix_seq {l : Expr} {f : EV} (hl : XV X W l f) : IX X W tg l (iSX f) := by
  refine FL.PI.imp (pi_seq hl) fun τ H R ⟨F, A, ω, r, k⟩ => ⟨F, A, ω, r, (VOut.bnd k).imp fun d F1 A1 H1 ω1 s1 r1 k1 v rv => ?_⟩
  split at k1
  · rename_i items e
    exact rd_seq r1.sub rv e (k1 F1 A1 H1 .refl r1)
  · exact k1.elim
/-! enumerate -/
/-! zip -/
/-! ### for -/
def loopF (g : GF) (body : VS) (cl : List Nat) : List ItD → VS
  | [], ω => .ok (.nx, ω)
  | t :: ts, ω => match g t ω with
    | none => .no
    | some ω1 => bnd (body ω1) fun fl ω2 => match fl with
      | .nx => loopF g body cl ts (forget cl ω2)
      | .ct => loopF g body cl ts (forget cl ω2)
      | .bk => .ok (.nx, forget cl ω2)
      | .rt o => .ok (.rt o, ω2)
def cFor (fi : XIF) (g : GF) (body : VS) (cl : List Nat) : VS := fun ω => bnd (fi ω) fun items ω => loopF g body cl items (forget cl ω)
theorem VRel.awayF {K : Frg} {F H : Hp} {A : List Addr} {ω : Om} {τ : L2.St} (r : VRel K F H A ω τ) (cl : List Nat) : ∃ A', VStep F A H F A' H ∧ VRel K F H A' (VL.forget cl ω) τ := by
  obtain ⟨A', r', h⟩ := r.forget (is := cl)
  exact ⟨A', ⟨fun _ _ h => h, fun _ _ h => .inl h, fun b hb => .inl (h b hb), fun _ _ h _ => h, fun _ h => h⟩, r'⟩
theorem s_for {P : List Nat} {iter : Expr} {body : List Stmt} {is : List Nat} {fi : XIF} {g : GF} {fb : VS} (cl : List Nat) (hp : PassesOwn (model X.prog X.w) X.A X.env X.xe) (hc : X.calm = true) (hi : IX X W tg iter fi) (hg : GV X tg is g) (hb : SVs X W P body fb) (hP : ∀ i ∈ is, i ∉ P := by decide)
    (hs : ∀ x, foldedSetIterable iter X.env x = pure x := by intro _; rfl) : SV X W P (.For tg iter body [] pos) (cFor fi g fb cl) := by
  refine FL.PS.imp (ps_for hp hc hi hg hb hs) fun D τ H ⟨F, A, ω, r, k⟩ => ⟨F, A, ω, r, (VFin.bnd k).imp fun items F1 A1 H1 ω1 s1 r1 k1 J hJ => ?_⟩
  refine ⟨fun i m τ' H => ∃ F A ω, VRel X.K F H A ω τ' ∧ Sub F1 F ∧ VFin X.K W P τ' F A H (loopF g fb cl (items.drop i) ω) D ∧ m = items.length - i, ?_, ?_⟩
  · obtain ⟨A2, s2, r2⟩ := r1.awayF cl
    exact ⟨items.length, F1, A2, _, r2, fun _ _ h => h, VFin.step k1 s2 (.refl _ _), rfl⟩
  rintro i m τ' H ⟨F, A, ω, r, sub, k, rfl⟩
  obtain ⟨q1, q2⟩ := hJ F H sub r.sub i
  by_cases hlt : i < items.length
  · rw [List.drop_eq_getElem_cons hlt] at k
    unfold loopF at k
    obtain ⟨go, yl⟩ := q2 items[i] (List.getElem?_eq_getElem hlt)
    cases hg2 : g items[i] ω with
    | none => rw [hg2] at k; exact k.elim
    | some ω1 =>
      rw [hg2] at k
      simp only at k
      refine .inr ⟨go, fun τ2 H2 => ∃ F A ω, VRel X.K F H2 A ω τ2 ∧ Sub F1 F ∧ VFin X.K W P τ2 F A H2 (loopF g fb cl (items.drop (i + 1)) ω) D, ?_, ?_⟩
      · rintro τ2 H2 ⟨F2, A2, ω2, r2, sub2, k2⟩
        exact ⟨items.length - (i + 1), by omega, F2, A2, ω2, r2, sub2, k2, rfl⟩
      · intro x H' hy
        obtain ⟨F', s', ri⟩ := yl x H' hy
        obtain ⟨s2, r2⟩ := r.pure s'
        refine ⟨F', A, ω, items[i], ω1, r2, ri, hg2, fun τ3 F3 A3 H3 s3 r3 d3 => ⟨F3, A3, ω1, r3, ?_⟩⟩
        have pin := Dif.pin d3 hP
        have k := VFin.step k (s2.trans s3) pin
        have sub3 : Sub F1 F3 := fun b o h => s3.fsub b o (s2.fsub b o (sub b o h))
        revert k
        cases fb ω1 with
        | ok p =>
          obtain ⟨fl, ω4⟩ := p
          have next : VFin X.K W P τ3 F3 A3 H3 (loopF g fb cl (items.drop (i + 1)) (forget cl ω4)) D → ∀ F' A' H' τ', VStep F3 A3 H3 F' A' H' → VRel X.K F' H' A' ω4 τ' → Pin P τ3 τ' → ∃ F A ω, VRel X.K F H' A ω τ' ∧ Sub F1 F ∧ VFin X.K W P τ' F A H' (loopF g fb cl (items.drop (i + 1)) ω) D := fun k F4 A4 H4 τ4 s4 r4 p4 => by
            obtain ⟨A5, s5, r5⟩ := r4.awayF cl
            exact ⟨F4, A5, _, r5, fun b o h => s4.fsub b o (sub3 b o h), VFin.step k (s4.trans s5) p4⟩
          cases fl with
          | nx => exact next
          | ct => exact next
          | bk => exact fun k F4 A4 H4 τ4 s4 r4 p4 => let ⟨A5, s5, r5⟩ := r4.awayF cl; k F4 A5 H4 τ4 (s4.trans s5) r5 p4
          | rt o => exact id
        | ex x => exact id
        | no => exact id
  · rw [List.drop_eq_nil_of_le (Nat.le_of_not_lt hlt)] at k
    exact .inl ⟨q1 (Nat.le_of_not_lt hlt), k F A H τ' .refl r (.refl _ _)⟩
/-! ### while -/
def loopW (c : EB) (body : VS) (cl : List Nat) : Nat → VS
  | 0, _ => .no
  | n + 1, ω => bnd (c ω) fun b ω1 => if b = true then bnd (body ω1) fun fl ω2 => (match fl with
      | .nx => loopW c body cl n (forget cl ω2)
      | .ct => loopW c body cl n (forget cl ω2)
      | .bk => .ok (.nx, forget cl ω2)
      | .rt o => .ok (.rt o, ω2))
    else .ok (.nx, ω1)
theorem s_while {P : List Nat} {c : Expr} {body : List Stmt} {fc : EB} {fb : VS} (n : Nat) (cl : List Nat) (hp : PassesOwn (model X.prog X.w) X.A X.env X.xe) (hc : XB X W c fc) (hb : SVs X W P body fb) : SV X W P (.While c body [] pos) (loopW fc fb cl n) := by
  refine FL.PS.imp (ps_while hp hc hb) fun D τ H ⟨F, A, ω, r, k⟩ => ?_
  refine ⟨fun m τ H => ∃ F A ω, VRel X.K F H A ω τ ∧ VFin X.K W P τ F A H (loopW fc fb cl m ω) D, ⟨n, F, A, ω, r, k⟩, ?_⟩
  rintro m τ H ⟨F, A, ω, r, k⟩
  cases m with
  | zero => exact k.elim
  | succ m =>
    unfold loopW at k
    refine ⟨F, A, ω, r, (VFin.bnd k).imp fun b F1 A1 H1 ω1 s1 r1 k1 => ?_⟩
    cases b with
    | false =>
      rw [if_neg Bool.false_ne_true]
      exact k1 F1 A1 H1 τ .refl r1 (.refl _ _)
    | true =>
      rw [if_pos rfl]
      rw [if_pos rfl] at k1
      refine ⟨fun τ' H' => ∃ F A ω, VRel X.K F H' A ω τ' ∧ VFin X.K W P τ' F A H' (loopW fc fb cl m ω) D, ?_, ?_⟩
      · rintro τ' H' ⟨F2, A2, ω2, r2, k2⟩
        exact ⟨m, by omega, F2, A2, ω2, r2, k2⟩
      · refine ⟨F1, A1, ω1, r1, ?_⟩
        revert k1
        cases fb ω1 with
        | ok p =>
          obtain ⟨fl, ω4⟩ := p
          have next : VFin X.K W P τ F1 A1 H1 (loopW fc fb cl m (forget cl ω4)) D → ∀ F' A' H' τ', VStep F1 A1 H1 F' A' H' → VRel X.K F' H' A' ω4 τ' → Pin P τ τ' → ∃ F A ω, VRel X.K F H' A ω τ' ∧ VFin X.K W P τ' F A H' (loopW fc fb cl m ω) D := fun k F4 A4 H4 τ4 s4 r4 p4 => by
            obtain ⟨A5, s5, r5⟩ := r4.awayF cl
            exact ⟨F4, A5, _, r5, VFin.step k (s4.trans s5) p4⟩
          cases fl with
          | nx => exact next
          | ct => exact next
          | bk => exact fun k F4 A4 H4 τ4 s4 r4 p4 => let ⟨A5, s5, r5⟩ := r4.awayF cl; k F4 A5 H4 τ4 (s4.trans s5) r5 p4
          | rt o => exact id
        | ex x => exact id
        | no => exact id
end
end VL
/-! VL: comprehensions. -/
namespace VL
open PySem PySem.Spec PyProof.Rows L2 FL
/-- no exception leaves -/
abbrev W0 : WW := fun _ _ _ _ => False
def noex {ε ε' α : Type} : R ε α → R ε' α
  | .ok a => .ok a
  | _ => .no
/-! ### targets, pure -/
abbrev HF := ItD → Sg → Option Sg
abbrev HsF := List D → Sg → Option Sg
def tHP (K : Frg) (is : List Nat) (g : HF) : TG := fun v τ H Q => ∃ F σ it σ', Sub F H ∧ SlD K F σ τ ∧ ItmD K F v it ∧ g it σ = some σ' ∧ ∀ τ', SlD K F σ' τ' → Dif is τ τ' → Q τ' H
def tHPs (K : Frg) (is : List Nat) (g : HsF) : TGs := fun vs τ H Q => ∃ F σ ds σ', Sub F H ∧ SlD K F σ τ ∧ Reps K F vs ds ∧ g ds σ = some σ' ∧ ∀ τ', SlD K F σ' τ' → Dif is τ τ' → Q τ' H
def HP (X : Cx) (tg : Expr) (is : List Nat) (g : HF) : Prop := PG X tg (tHP X.K is g)
def HPs (X : Cx) (tg : List Expr) (is : List Nat) (g : HsF) : Prop := PGs X tg (tHPs X.K is g)
def hN (i : Nat) : HF := fun it σ => some (σ.set i (some (itD it)))
theorem SlD.set {K : Frg} {F : Hp} {σ : Sg} {τ : L2.St} {v : V} {d : D} (h : SlD K F σ τ) (r : Rep K F v d) (i : Nat) : SlD K F (σ.set i (some d)) (τ.set i (some v)) := by
  refine ⟨by simp [h.1], fun j u e => ?_⟩
  rw [List.getElem?_set] at e
  rw [List.getElem?_set]
  by_cases hij : i = j
  · subst hij
    rw [if_pos rfl] at e
    rw [if_pos rfl]
    by_cases hi : i < σ.length
    · rw [if_pos hi] at e
      rw [if_pos (h.1 ▸ hi)]
      cases e
      exact ⟨v, rfl, r⟩
    · rw [if_neg hi] at e; cases e
  · rw [if_neg hij] at e
    rw [if_neg hij]
    exact h.2 j u e
section
variable {X : Cx} {pos : Pos}
theorem hp_name (i : Nat) {x : Str} {pos : Pos} (hN : X.N.Nodup) (hi : X.N[i]? = some x := by rfl) (hx : Loc X.env.scope x := by first | exact Or.inl rfl | exact Or.inr rfl) (hf : X.fn x = true ∨ X.env.scope.names.lookup x = some .local := by first | exact .inl rfl | exact .inr rfl | assumption) : HP X (.Name x pos) [i] (VL.hN i) := by
  refine FL.PG.imp (pg_name hN hi hx hf) fun v τ H Q ⟨F, σ, it, σ', s, so, ri, e, k⟩ => ?_
  cases e
  exact k _ (so.set ri.d i) (set_dif _ _ _)
def hNil : HsF := fun ds σ => match ds with
  | [] => some σ
  | _ => none
def hCons (g : HF) (gs : HsF) : HsF := fun ds σ => match ds with
  | d :: r => (g (.one d) σ).bind fun σ => gs r σ
  | [] => none
theorem hps_nil : HPs X [] [] hNil := by
  refine FL.PGs.imp pgs_nil fun v τ H Q ⟨F, σ, ds, σ', s, so, rs, e, k⟩ => ?_
  unfold hNil at e
  split at e
  · cases e
    cases rs
    exact ⟨rfl, k τ so (.refl _ _)⟩
  · cases e
theorem hps_cons {e : Expr} {es : List Expr} {is js : List Nat} {g : HF} {gs : HsF} (h1 : HP X e is g) (h2 : HPs X es js gs)
    (hs : (assignEach (e :: es) X.env).map (·.2) = assign e X.env :: (assignEach es X.env).map (·.2) := by rfl) : HPs X (e :: es) (is ++ js) (hCons g gs) := by
  refine FL.PGs.imp (pgs_cons h1 h2 hs) fun v τ H Q ⟨F, σ, ds, σ', s, so, rs, e, k⟩ => ?_
  unfold hCons at e
  split at e
  · rename_i t tr
    cases rs with
    | cons q qr =>
      obtain ⟨σ1, e1, e⟩ := bind_some e
      exact ⟨_, _, rfl, F, σ, .one t, σ1, s, so, q, e1, fun τ1 so1 d1 => ⟨F, σ1, tr, σ', s, so1, qr, e, fun τ2 so2 d2 => k τ2 so2 (d1.trans d2)⟩⟩
  · cases e
def hT (n : Nat) (gs : HsF) : HF := fun it σ => (partsD it).bind fun ds => if ds.length = n then gs ds σ else none
theorem hp_tup {es : List Expr} {k : Nat} {is : List Nat} {gs : HsF} {n : Nat} {pos : Pos} (hc : X.calm = true) (h : HPs X es is gs)
    (hn : (assignEach es X.env).length = n := by rfl) (hst : (assignEach es X.env).findIdx? (·.1) = none := by rfl) : HP X (.Tuple es k pos) is (hT n gs) := by
  refine FL.PG.imp (pg_tup hc h hn hst) fun v τ H Q ⟨F, σ, it, σ', s, so, ri, e, k⟩ => ?_
  obtain ⟨ds, e1, e⟩ := bind_some e
  split at e
  · rename_i hlen
    obtain ⟨a, vs, rfl, q, rs⟩ := partsD_ok ri e1
    exact ⟨a, vs, rfl, SqT.sub s q, by rw [rs.length]; exact hlen, F, σ, ds, σ', s, so, rs, e, k⟩
  · cases e
/-! ### the pure comprehension -/
def PTS (X : Cx) (W : WW) (ifs : List Expr) (f : PBF) : Prop := PTs X ifs (tPB X.K W f)
def cYes : PBF := fun _ => .ok true
theorem pts_yes {W : WW} : PTS X W [] cYes := FL.PTs.imp pts_nil fun τ H Q ⟨F, σ, s, so, k⟩ => k F H (.refl s)
theorem pts_if {W : WW} {c : Expr} {f : PBF} (h : PB X W c f) : PTS X W [c] f := pts_one h
def forgetS (is : List Nat) (σ : Sg) : Sg := is.foldl (fun s i => s.set i none) σ
def compL (g : HF) (c : PBF) (f : POF) (σ : Sg) : List ItD → R Exn (List O)
  | [] => .ok []
  | t :: ts => match g t σ with
    | none => .no
    | some σ1 => match c σ1 with
      | .ok true => (match f σ1 with
        | .ok o => (compL g c f σ ts).map fun os => o :: os
        | _ => .no)
      | .ok false => compL g c f σ ts
      | _ => .no
def cComp (fi : PIF) (g : HF) (c : PBF) (f : POF) (vs : List Nat) : POF := fun σ => (fi σ).bind fun items => (compL g c f (forgetS vs σ) items).bind fun os => if os.length ≤ sizeLine then .ok (.l os) else .no
theorem forgetS_get : ∀ (vs : List Nat) (σ : Sg), (forgetS vs σ).length = σ.length ∧ ∀ j t, (forgetS vs σ)[j]? = some (some t) → σ[j]? = some (some t) ∧ j ∉ vs
  | [], σ => ⟨rfl, fun j t e => ⟨e, by simp⟩⟩
  | v :: vs, σ => by
    obtain ⟨i1, i2⟩ := forgetS_get vs (σ.set v none)
    refine ⟨by show (forgetS vs (σ.set v none)).length = _; rw [i1, List.length_set], fun j t e => ?_⟩
    obtain ⟨e1, e2⟩ := i2 j t e
    rw [List.getElem?_set] at e1
    by_cases hv : v = j
    · subst hv
      rw [if_pos rfl] at e1
      by_cases hl : v < σ.length
      · rw [if_pos hl] at e1; cases e1
      · rw [if_neg hl] at e1; cases e1
    · rw [if_neg hv] at e1
      exact ⟨e1, fun z => (List.mem_cons.mp z).elim (fun z => hv z.symm) e2⟩
theorem SlD.wipe {K : Frg} {F : Hp} {σ : Sg} {τ : L2.St} (h : SlD K F σ τ) (vs : List Nat) : SlD K F (forgetS vs σ) (L2.wipe τ vs) := by
  refine ⟨by rw [(forgetS_get vs σ).1, wipe_length]; exact h.1, fun i d e => ?_⟩
  obtain ⟨e1, e2⟩ := (forgetS_get vs σ).2 i d e
  obtain ⟨v, h1, h2⟩ := h.2 i d e1
  exact ⟨v, by rw [wipe_get, if_neg e2]; exact h1, h2⟩
theorem lc_ok {W : WW} {fi : PIF} {g : HF} {c : PBF} {f : POF} {is vs : List Nat} {τ : L2.St} {H : Hp} {Q : VK} (his : ∀ i ∈ is, i ∈ vs) (h : tPO X.K W (cComp fi g c f vs) τ H Q) :
    tLc (tPI X.K W fi) (tHP X.K is g) (tPB X.K W0 c) (tPO X.K W0 f) vs τ H Q := by
  obtain ⟨F, σ, s, so, k⟩ := h
  refine ⟨F, σ, s, so, (Out.bind k).imp fun items F1 H1 s1 k1 J hJ D hD => ?_⟩
  cases hos : compL g c f (forgetS vs σ) items with
  | ex x => rw [hos] at k1; exact absurd hos (by
      -- never an exception
      have key : ∀ (items : List ItD) (x : Exn), compL g c f (forgetS vs σ) items ≠ .ex x := by
        intro items
        induction items with
        | nil => intro x e; cases e
        | cons t ts ih =>
          intro x e
          unfold compL at e
          split at e
          · cases e
          · split at e
            · split at e
              · cases q : compL g c f (forgetS vs σ) ts with
                | ok a => rw [q] at e; cases e
                | ex y => exact ih y q
                | no => rw [q] at e; cases e
              · cases e
            · exact ih x e
            · cases e
      exact key items x)
  | no => rw [hos] at k1; exact k1.elim
  | ok os =>
  rw [hos] at k1
  simp only [R.bind] at k1
  split at k1
  case isFalse => exact k1.elim
  rename_i hz
  have F1D : F1 D = none := none_up s1.sub hD
  refine ⟨fun i m H2 => ∃ F2 B acc rest, PStep F1 H1 F2 H2 ∧ F2 D = none ∧ D ∉ B ∧ Fresh H1 B ∧ (∃ ws, H2 D = some (.lst ws) ∧ Owns X.K F2 H2 ws acc B) ∧ compL g c f (forgetS vs σ) (items.drop i) = .ok rest ∧ os = acc ++ rest ∧ m = items.length - i,
    ⟨items.length, F1, [], [], os, .new s1.sub hD, F1D, by simp, ⟨List.nodup_nil, fun b h => by simp at h⟩, ⟨[], upd_same, .nil⟩, hos, rfl, rfl⟩, ?_⟩
  rintro i m H2 ⟨F2, B, acc, rest, s2, FD, DB, fr, ⟨ws, hD', ra⟩, e, eu, rfl⟩
  obtain ⟨q1, q2⟩ := hJ F2 H2 s2.fsub s2.sub i
  by_cases hlt : i < items.length
  · rw [List.drop_eq_getElem_cons hlt] at e
    unfold compL at e
    obtain ⟨go, yl⟩ := q2 items[i] (List.getElem?_eq_getElem hlt)
    split at e
    · cases e
    rename_i σ2 hg
    refine .inr ⟨go, fun H' => ∃ F2 B acc rest, PStep F1 H1 F2 H' ∧ F2 D = none ∧ D ∉ B ∧ Fresh H1 B ∧ (∃ ws, H' D = some (.lst ws) ∧ Owns X.K F2 H' ws acc B) ∧ compL g c f (forgetS vs σ) (items.drop (i + 1)) = .ok rest ∧ os = acc ++ rest, ?_, ?_⟩
    · rintro H' ⟨F', B', acc', rest', h1, h2, h3, h4, h5, h6, h7⟩
      exact ⟨items.length - (i + 1), by omega, F', B', acc', rest', h1, h2, h3, h4, h5, h6, h7, rfl⟩
    · intro x H' hy
      obtain ⟨F', s3, ri⟩ := yl x H' hy
      have so3 : SlD X.K F' (forgetS vs σ) (L2.wipe τ vs) := (so.mono fun b o h => s3.fsub b o (s2.fsub b o (s1.fsub b o h))).wipe vs
      refine ⟨F', forgetS vs σ, items[i], σ2, s3.sub, so3, ri, hg, fun τ2 so2 df => ⟨wipe_dif df his, ?_⟩⟩
      have apart : ∀ {F4 H4}, PStep F2 H2 F4 H4 → F4 D = none ∧ H4 D = some (.lst ws) := fun {F4 H4} s4 => by
        refine ⟨?_, s4.hsub _ _ hD'⟩
        cases q : F4 D with
        | none => rfl
        | some u =>
          rcases s4.fnew D u q with z | z
          · rw [FD] at z; cases z
          · rw [hD'] at z; cases z
      refine ⟨F', σ2, s3.sub, so2, ?_⟩
      cases hc : c σ2 with
      | ex y => rw [hc] at e; cases e
      | no => rw [hc] at e; cases e
      | ok b =>
        rw [hc] at e
        intro F4 H4 s4
        cases b with
        | false =>
          refine iteF ?_
          obtain ⟨a1, a2⟩ := apart (s3.trans s4)
          exact ⟨F4, B, acc, rest, (s2.trans s3).trans s4, a1, DB, fr, ⟨ws, a2, ra.pstep (s3.trans s4)⟩, e, eu⟩
        | true =>
          refine iteT ?_
          simp only at e
          refine ⟨F4, σ2, s4.sub, so2.mono s4.fsub, ?_⟩
          cases hf : f σ2 with
          | ex y => rw [hf] at e; cases e
          | no => rw [hf] at e; cases e
          | ok o =>
            rw [hf] at e
            simp only at e
            cases hr : compL g c f (forgetS vs σ) (items.drop (i + 1)) with
            | ex y => rw [hr] at e; cases e
            | no => rw [hr] at e; cases e
            | ok rs =>
              rw [hr] at e
              cases e
              intro F5 H5 s5 v C ow fc
              have s345 := (s3.trans s4).trans s5
              obtain ⟨a1, a2⟩ := apart s345
              have ra5 := ra.pstep s345
              refine ⟨ws, a2, ?_, ?_⟩
              · have : acc.length + 1 ≤ os.length := by rw [eu]; simp
                rw [ra5.length]; omega
              · have CB : ∀ b ∈ C, H2 b = none := fun b hb => (s3.trans s4).gone (fc.2 b hb)
                have CD : D ∉ C := fun h => by
                  have := CB D h
                  rw [hD'] at this; cases this
                have keep : ∀ b, b ≠ D → (upd H5 D (.lst (ws ++ [v]))) b = H5 b := fun b hb => by rw [upd_ne hb]
                have st := s2.trans s345
                refine ⟨F5, B ++ C, acc ++ [o], rs, ⟨st.fsub, st.fnew, fun b u q => ?_, fun b u q => ?_⟩, a1, fun h => (List.mem_append.mp h).elim DB CD, ⟨nodup_join fr.1 fc.1 fun b hb hc => ?_, fun b hb => ?_⟩, ⟨_, upd_same, ?_⟩, rfl, by rw [eu]; simp⟩
                · rw [keep b (ne_of_none q hD)]; exact st.hsub b u q
                · rw [keep b (ne_of_none q a1)]; exact st.sub b u q
                · obtain ⟨⟨u, hu, _⟩, _⟩ := ra.at b hb
                  rw [CB b hc] at hu; cases hu
                · rcases List.mem_append.mp hb with z | z
                  · exact fr.2 b z
                  · exact s2.gone (CB b z)
                · have m1 : Owns X.K F5 (upd H5 D (.lst (ws ++ [v]))) ws acc B := ra5.move (fun _ _ h => h) fun b hb => ⟨(ra5.at b hb).2, keep b fun e => DB (e ▸ hb)⟩
                  have m2 : Own X.K F5 (upd H5 D (.lst (ws ++ [v]))) v o C := ow.move (fun _ _ h => h) fun b hb => ⟨(ow.at b hb).2, keep b fun e => CD (e ▸ hb)⟩
                  have := m1.append (.cons m2 .nil)
                  rwa [List.append_nil] at this
  · rw [List.drop_eq_nil_of_le (Nat.le_of_not_lt hlt)] at e
    cases e
    rw [List.append_nil] at eu
    subst eu
    exact .inl ⟨q1 (Nat.le_of_not_lt hlt), k1 F2 H2 s2 (.ref D) (D :: B) (.l hD' FD ra) ⟨List.nodup_cons.mpr ⟨DB, fr.1⟩, fun b hb => by
      rcases List.mem_cons.mp hb with e | e
      · rw [e]; exact s1.gone hD
      · exact s1.gone (fr.2 b e)⟩⟩
theorem o_lc {W : WW} {elt tg iter : Expr} {ifs : List Expr} {scope : Scope} {own : List (Str × Nat)} {pos : Pos} {fi : PIF} {g : HF} {ft : PBF} {fe : POF} {is : List Nat} (hc : X.calm = true) (hN : X.N.Nodup) (hi : IP X W tg iter fi) (ok : BlkOk X.N X.env.scope scope own)
    (hg : ∀ (s : Shared) (H : Hp) (C : Addr) (cl : List (Str × Addr)) (fp : List Addr), HP (X.blk s H scope (compEnvC scope cl C X.env) fp) tg is g) (ht : ∀ (s : Shared) (H : Hp) (C : Addr) (cl : List (Str × Addr)) (fp : List Addr), PTS (X.blk s H scope (compEnvC scope cl C X.env) fp) W0 ifs ft)
    (he : ∀ (s : Shared) (H : Hp) (C : Addr) (cl : List (Str × Addr)) (fp : List Addr), PO (X.blk s H scope (compEnvC scope cl C X.env) fp) W0 elt fe) (his : ∀ i ∈ is, i ∈ own.map (·.2) := by decide) (hs : ∀ x, foldedSetIterable iter X.env x = pure x := by intro _; rfl) :
    PO X W (.ListComp elt [⟨tg, iter, ifs, 0⟩] scope pos) (cComp fi g ft fe (own.map (·.2))) :=
  FL.PE.imp (pe_lc (g := tHP X.K is g) (tt := tPB X.K W0 ft) (te := tPO X.K W0 fe) hc hN hi ok hg ht he hs) fun _ _ _ h => lc_ok his h
end
end VL
/-! VL: comprehensions that change what the slots own; a name that gets a comprehension. -/
namespace VL
open PySem PySem.Spec PyProof.Rows L2 FL
section
variable {K : Frg} {W : WW} {P : List Nat} {τ : L2.St} {H : Hp} {Q : VK} {D : Ends}
theorem set_rd {i : Nat} {fe : EO} (hP : i ∉ P) (h : tVS K W P (cSet i fe) D τ H) : tEO K W fe τ H fun v H' => D.nx (τ.set i (some v)) H' := by
  obtain ⟨F, A, ω, r, k⟩ := h
  refine ⟨F, A, ω, r, ?_⟩
  revert k
  unfold cSet
  cases fe ω with
  | ok p =>
    obtain ⟨o, ω1⟩ := p
    intro k F1 A1 H1 s1 r1 v B ow nd hB
    obtain ⟨A2, r2, h2⟩ := r1.set ow nd i
    exact k F1 A2 H1 _ ((s1.wide hB).less h2) r2 (.set hP)
  | ex x => obtain ⟨x, ω⟩ := x; exact fun k F' A' H' cls dx s r rx => k F' A' H' τ cls dx s r (.refl _ _) rx
  | no => exact id
theorem loD_rd {f : POF} (h : tEO K W (loD f) τ H Q) : tPO K W f τ H Q := by
  obtain ⟨F, A, ω, r, k⟩ := h
  refine ⟨F, viewD ω, r.sub, r.sl.viewD, ?_⟩
  unfold loD at k
  cases q : f (viewD ω) with
  | ok d =>
    simp only [q] at k
    intro G H' s v B ow fr
    obtain ⟨s1, r1⟩ := r.pure s
    exact k _ _ _ s1 r1 v B ow (fresh_apart r fr) fun b hb => .inr (fr.2 b hb)
  | ex x =>
    simp only [q] at k
    intro G H' cls dx s rx
    obtain ⟨s1, r1⟩ := r.pure s
    exact k _ _ _ cls dx s1 r1 rx
  | no => simp only [q] at k; exact k.elim
/-- the object as data -/
theorem evO_rd {f : EO} (h : tEV K W (evO f) τ H Q) : tEO K W f τ H Q := by
  obtain ⟨F, A, ω, r, k⟩ := h
  refine ⟨F, A, ω, r, ?_⟩
  revert k
  unfold evO
  cases f ω with
  | ok p =>
    obtain ⟨o, ω'⟩ := p
    intro k F' A' H' s r' v B ow nd hb
    obtain ⟨s2, r2, rd⟩ := r'.settle ow nd
    refine k (over F' H' B) A' H' ⟨fun b o h => s2.fsub b o (s.fsub b o h), fun b o h => ?_, s.anew, s.keep, s.alive⟩ r2 v rd
    by_cases z : b ∈ B
    · rcases hb b z with q | q
      · exact .inr (.inl q)
      · exact .inr (.inr q)
    · rw [over_out z] at h; exact s.fnew b o h
  | ex x => exact id
  | no => exact id
theorem eoD_rd {f : EV} (h : tEO K W (eoD f) τ H Q) : tEV K W f τ H Q := by
  obtain ⟨F, A, ω, r, k⟩ := h
  exact ⟨F, A, ω, r, (VOut.bnd k).imp fun d F' A' H' ω' s r' k v rv => k F' A' H' .refl r' v [] (.d rv) (by simpa using r'.nd) (fun b h => by simp at h)⟩
end
/-! ### slots of a comprehension -/
theorem forget_get : ∀ (vs : List Nat) (ω : Om), (forget vs ω).length = ω.length ∧ (∀ j ∈ vs, (forget vs ω)[j]? = if j < ω.length then some none else none) ∧ ∀ j, j ∉ vs → (forget vs ω)[j]? = ω[j]?
  | [], ω => ⟨rfl, fun j h => by simp at h, fun j _ => rfl⟩
  | v :: vs, ω => by
    obtain ⟨i1, i2, i3⟩ := forget_get vs (ω.set v none)
    have e : forget (v :: vs) ω = forget vs (ω.set v none) := rfl
    rw [e]
    refine ⟨by rw [i1, List.length_set], fun j hj => ?_, fun j hj => ?_⟩
    · by_cases h : j ∈ vs
      · rw [i2 j h, List.length_set]
      · rw [i3 j h]
        rcases List.mem_cons.mp hj with z | z
        · subst z
          rw [List.getElem?_set, if_pos rfl]
        · exact absurd z h
    · rw [i3 j fun z => hj (List.mem_cons_of_mem _ z)]
      exact List.getElem?_set_ne fun z => hj (by rw [z]; exact List.mem_cons_self)
/-- the same slots over a frame that differs where nothing is held -/
theorem SlO.over {K : Frg} {F H : Hp} : ∀ {ω : Om} {τ τ' : L2.St} {A : List Addr}, SlO K F H ω τ A → τ'.length = τ.length → (∀ (j : Nat) (o : O), ω[j]? = some (some o) → τ'[j]? = τ[j]?) → SlO K F H ω τ' A
  | _, _, τ', _, .nil, hl, _ => by
    cases τ' with
    | nil => exact .nil
    | cons t ts => simp at hl
  | _, _, τ', _, .un r, hl, h => by
    cases τ' with
    | nil => simp at hl
    | cons t ts => exact .un (SlO.over r (by simpa using hl) fun j o e => by simpa using h (j + 1) o (by simpa using e))
  | _, _, τ', _, .v (o := o) ow r, hl, h => by
    cases τ' with
    | nil => simp at hl
    | cons t ts =>
      have e := h 0 o rfl
      simp at e
      subst e
      exact .v ow (SlO.over r (by simpa using hl) fun j o e => by simpa using h (j + 1) o (by simpa using e))
theorem VRel.over {K : Frg} {F H : Hp} {ω : Om} {τ τ' : L2.St} {A : List Addr} (r : VRel K F H A ω τ) (hl : τ'.length = τ.length) (h : ∀ (j : Nat) (o : O), ω[j]? = some (some o) → τ'[j]? = τ[j]?) : VRel K F H A ω τ' := ⟨r.sub, r.sl.over hl h, r.nd⟩
theorem VRel.wipe {K : Frg} {F H : Hp} {ω : Om} {τ : L2.St} {A : List Addr} (r : VRel K F H A ω τ) (vs : List Nat) : ∃ A', VStep F A H F A' H ∧ VRel K F H A' (VL.forget vs ω) (L2.wipe τ vs) := by
  obtain ⟨A', s, r'⟩ := r.awayF vs
  refine ⟨A', s, r'.over (by rw [wipe_length]) fun j o e => ?_⟩
  rw [wipe_get, if_neg]
  intro hj
  rw [(forget_get vs ω).2.1 j hj] at e
  split at e <;> cases e
/-! ### the comprehension -/
def XTS (X : Cx) (W : WW) (ifs : List Expr) (f : EB) : Prop := PTs X ifs (tEB X.K W f)
def eYes : EB := fun ω => .ok (true, ω)
section
variable {X : Cx} {W : WW} {pos : Pos}
def compX (g : GF) (c : EB) (f : EO) (vs : List Nat) : List ItD → Om → Option (List O × Om)
  | [], ω => some ([], ω)
  | t :: ts, ω => match g t ω with
    | none => none
    | some ω1 => match c ω1 with
      | .ok (true, ω2) => (match f ω2 with
        | .ok (o, ω3) => (compX g c f vs ts (forget vs ω3)).map fun p => (o :: p.1, p.2)
        | _ => none)
      | .ok (false, ω2) => compX g c f vs ts (forget vs ω2)
      | _ => none
def eComp (fi : XIF) (g : GF) (c : EB) (f : EO) (vs : List Nat) : EO := fun ω => bnd (fi ω) fun items ω => match compX g c f vs items (forget vs ω) with
  | some (os, ω') => if os.length ≤ sizeLine then .ok (.l os, ω') else .no
  | none => .no
/-! ### y = [.. for ..] -/
section
variable {P : List Nat} {elt tg iter : Expr} {ifs : List Expr} {scope : Scope} {own : List (Str × Nat)} {spos : Pos} {is : List Nat} {y : Str} {py : Pos}
theorem s_setLcP {fi : PIF} {g : HF} {ft : PBF} {fe : POF} {ff : EO} (i : Nat) (hff : ∀ τ H Q, tEO X.K W ff τ H Q → tPO X.K W (cComp fi g ft fe (own.map (·.2))) τ H Q) (hc : X.calm = true) (hN : X.N.Nodup)
    (hsw : swapsWith (.ListComp elt [⟨tg, iter, ifs, 0⟩] scope pos) (some (.Name y py)) spos.line X.env = pure true) (hi : IP X W tg iter fi) (ok : BlkOk X.N X.env.scope scope own)
    (hg : ∀ (s : Shared) (H : Hp) (C : Addr) (cl : List (Str × Addr)) (fp : List Addr), HP (X.blk s H scope (compEnvC scope cl C X.env) fp) tg is g) (ht : ∀ (s : Shared) (H : Hp) (C : Addr) (cl : List (Str × Addr)) (fp : List Addr), PTS (X.blk s H scope (compEnvC scope cl C X.env) fp) W0 ifs ft)
    (he : ∀ (s : Shared) (H : Hp) (C : Addr) (cl : List (Str × Addr)) (fp : List Addr), PO (X.blk s H scope (compEnvC scope cl C X.env) fp) W0 elt fe) (his : ∀ i ∈ is, i ∈ own.map (·.2) := by decide) (hP : i ∉ P := by decide) (hy : X.N[i]? = some y := by rfl) (hyl : X.env.scope.names.lookup y = some .local := by rfl) (hs : ∀ x, foldedSetIterable iter X.env x = pure x := by intro _; rfl) :
    SV X W P (.Assign [.Name y py] (.ListComp elt [⟨tg, iter, ifs, 0⟩] scope pos) spos) (cSet i ff) :=
  FL.PS.imp (ps_setLc (g := tHP X.K is g) (tt := tPB X.K W0 ft) (te := tPO X.K W0 fe) hc hN hy hyl hsw hi ok hg ht he hs) fun D τ H h => lc_ok his (hff _ _ _ (set_rd hP h))
/-- the object as data, in a slot -/
theorem dat_rd {K : Frg} {f : EO} {τ : L2.St} {H : Hp} {Q : VK} (h : tEO K W (eoD (evO f)) τ H Q) : tEO K W f τ H Q := evO_rd (eoD_rd h)
end
end
end VL
/-! VL: lists that are changed. -/
namespace VL
open PySem PySem.Spec PyProof.Rows L2 FL
/-! ### a place within a slot's object -/
def getP : O → List Nat → Option O
  | o, [] => some o
  | .l os, k :: p => (os[k]?).bind fun o => getP o p
  | .t os, k :: p => (os[k]?).bind fun o => getP o p
  | _, _ => none
def setP : O → List Nat → O → O
  | _, [], o' => o'
  | .l os, k :: p, o' => match os[k]? with
    | some o => .l (os.set k (setP o p o'))
    | none => .l os
  | .t os, k :: p, o' => match os[k]? with
    | some o => .t (os.set k (setP o p o'))
    | none => .t os
  | o, _, _ => o
theorem SubV.mono {H H' : Hp} (h : Sub H H') : ∀ {v v' : V} {p : List Nat}, SubV H v p v' → SubV H' v p v'
  | _, _, _, .nil => .nil
  | _, _, _, .ix h1 h2 h3 => .ix (h _ _ h1) h2 (SubV.mono h h3)
  | _, _, _, .tx h1 h2 h3 => .tx (h _ _ h1) h2 (SubV.mono h h3)
theorem SubV.snoc {H : Hp} {a : Addr} {vs : List V} {k : Nat} {v1 : V} (h1 : H a = some (.lst vs)) (h2 : vs[k]? = some v1) : ∀ {v : V} {p : List Nat}, SubV H v p (.ref a) → SubV H v (p ++ [k]) v1
  | _, _, .nil => .ix h1 h2 .nil
  | _, _, .ix g1 g2 g3 => .ix g1 g2 (SubV.snoc h1 h2 g3)
  | _, _, .tx g1 g2 g3 => .tx g1 g2 (SubV.snoc h1 h2 g3)
theorem SubV.snocT {H : Hp} {a : Addr} {vs : List V} {k : Nat} {v1 : V} (h1 : H a = some (.tup vs)) (h2 : vs[k]? = some v1) : ∀ {v : V} {p : List Nat}, SubV H v p (.ref a) → SubV H v (p ++ [k]) v1
  | _, _, .nil => .tx h1 h2 .nil
  | _, _, .ix g1 g2 g3 => .ix g1 g2 (SubV.snocT h1 h2 g3)
  | _, _, .tx g1 g2 g3 => .tx g1 g2 (SubV.snocT h1 h2 g3)
section
variable {K : Frg} {F H : Hp}
theorem Owns.focus : ∀ {vs : List V} {os : List O} {B : List Addr} {k : Nat} {o : O}, Owns K F H vs os B → os[k]? = some o → ∃ v B1 C B2, vs[k]? = some v ∧ B = B1 ++ (C ++ B2) ∧ Own K F H v o C ∧
    ∀ (F' H' : Hp) (v' : V) (o' : O) (C' : List Addr), Sub F F' → (∀ b ∈ B1 ++ B2, F' b = none ∧ H' b = H b) → Own K F' H' v' o' C' → Owns K F' H' (vs.set k v') (os.set k o') (B1 ++ (C' ++ B2))
  | _, _, _, k, _, .nil, e => by simp at e
  | _, _, _, 0, _, .cons (B := C) (C := B2) ow r, e => by
    cases e
    exact ⟨_, [], C, B2, rfl, rfl, ow, fun F' H' v' o' C' hs k ow' => by rw [List.nil_append]; exact .cons ow' (r.move hs k)⟩
  | _, _, _, k + 1, o, .cons (B := B0) ow r, e => by
    obtain ⟨v, B1, C, B2, h1, h2, h3, h4⟩ := Owns.focus (k := k) (o := o) r (by simpa using e)
    refine ⟨v, B0 ++ B1, C, B2, by simpa using h1, by rw [h2, List.append_assoc], h3, fun F' H' v' o' C' hs kp ow' => ?_⟩
    rw [List.append_assoc]
    exact .cons (ow.move hs fun b hb => kp b (List.mem_append_left _ (List.mem_append_left _ hb))) (h4 F' H' v' o' C' hs (fun b hb => kp b (by
      rcases List.mem_append.mp hb with z | z
      · exact List.mem_append_left _ (List.mem_append_right _ z)
      · exact List.mem_append_right _ z)) ow')
theorem Own.place (sFH : Sub F H) : ∀ {p : List Nat} {v v1 : V} {o o1 : O} {B : List Addr}, Own K F H v o B → SubV H v p v1 → getP o p = some o1 → ∃ B1 C B2, B = B1 ++ (C ++ B2) ∧ Own K F H v1 o1 C ∧
    ∀ (F' H' : Hp) (o' : O) (C' : List Addr), Sub F F' → (∀ b ∈ B1 ++ B2, F' b = none ∧ H' b = H b) → Own K F' H' v1 o' C' → Own K F' H' v (setP o p o') (B1 ++ (C' ++ B2))
  | [], v, v1, o, o1, B, ow, sv, e => by
    cases sv
    have e : o = o1 := by
      cases o <;> (unfold getP at e; exact Option.some.inj e)
    subst e
    refine ⟨[], B, [], by simp, ow, fun F' H' o' C' hs k ow' => ?_⟩
    rw [List.nil_append, List.append_nil]
    have z : setP o [] o' = o' := by cases o <;> (unfold setP; rfl)
    rw [z]; exact ow'
  | k :: p, v, v1, o, o1, B, ow, sv, e => by
    cases ow with
    | d r => unfold getP at e; cases e
    | i h1 h2 h3 => unfold getP at e; cases e
    | @l a vs os B0 h1 h2 h3 =>
      unfold getP at e
      obtain ⟨ok, e1, e2⟩ := bind_some e
      cases sv with
      | tx g1 g2 g3 => rw [h1] at g1; cases g1
      | @ix _ vs' _ v' _ _ g1 g2 g3 =>
        have ev : vs' = vs := by rw [h1] at g1; cases g1; rfl
        subst ev
        obtain ⟨vk, B1, C, B2, f1, f2, f3, f4⟩ := Owns.focus h3 e1
        have evk : v' = vk := by rw [g2] at f1; cases f1; rfl
        subst evk
        obtain ⟨B3, C1, B4, q1, q2, q3⟩ := Own.place sFH f3 g3 e2
        subst q1
        refine ⟨a :: (B1 ++ B3), C1, B4 ++ B2, by rw [f2]; simp [List.append_assoc], q2, fun F' H' o' C' hs kp ow' => ?_⟩
        have z : setP (.l os) (k :: p) o' = .l (os.set k (setP ok p o')) := by
          rw [setP.eq_def]; simp only [e1]
        rw [z]
        have inner := q3 F' H' o' C' hs (fun b hb => kp b (by
          rcases List.mem_append.mp hb with z | z
          · simp [z]
          · simp [z])) ow'
        have outer := f4 F' H' v' _ _ hs (fun b hb => kp b (by
          rcases List.mem_append.mp hb with z | z
          · simp [z]
          · simp [z])) inner
        have vset : vs'.set k v' = vs' := by
          obtain ⟨hk, ek⟩ := List.getElem?_eq_some_iff.mp f1
          rw [← ek, List.set_getElem_self]
        rw [vset] at outer
        have ka := kp a (by simp)
        have : a :: (B1 ++ B3) ++ (C' ++ (B4 ++ B2)) = a :: (B1 ++ (B3 ++ (C' ++ B4) ++ B2)) := by simp [List.append_assoc]
        rw [this]
        exact .l (ka.2.trans h1) ka.1 outer
    | @t a vs os B0 h1 h3 =>
      unfold getP at e
      obtain ⟨ok, e1, e2⟩ := bind_some e
      cases sv with
      | ix g1 g2 g3 => rw [sFH _ _ h1] at g1; cases g1
      | @tx _ vs' _ v' _ _ g1 g2 g3 =>
        have ev : vs' = vs := by rw [sFH _ _ h1] at g1; cases g1; rfl
        subst ev
        obtain ⟨vk, B1, C, B2, f1, f2, f3, f4⟩ := Owns.focus h3 e1
        have evk : v' = vk := by rw [g2] at f1; cases f1; rfl
        subst evk
        obtain ⟨B3, C1, B4, q1, q2, q3⟩ := Own.place sFH f3 g3 e2
        subst q1
        refine ⟨B1 ++ B3, C1, B4 ++ B2, by rw [f2]; simp [List.append_assoc], q2, fun F' H' o' C' hs kp ow' => ?_⟩
        have z : setP (.t os) (k :: p) o' = .t (os.set k (setP ok p o')) := by
          rw [setP.eq_def]; simp only [e1]
        rw [z]
        have inner := q3 F' H' o' C' hs (fun b hb => kp b (by
          rcases List.mem_append.mp hb with z | z
          · simp [z]
          · simp [z])) ow'
        have outer := f4 F' H' v' _ _ hs (fun b hb => kp b (by
          rcases List.mem_append.mp hb with z | z
          · simp [z]
          · simp [z])) inner
        have vset : vs'.set k v' = vs' := by
          obtain ⟨hk, ek⟩ := List.getElem?_eq_some_iff.mp f1
          rw [← ek, List.set_getElem_self]
        rw [vset] at outer
        have : (B1 ++ B3) ++ (C' ++ (B4 ++ B2)) = B1 ++ (B3 ++ (C' ++ B4) ++ B2) := by simp [List.append_assoc]
        rw [this]
        exact .t (hs _ _ h1) outer
/-- the list at a place is rewritten -/
theorem VRel.write {A : List Addr} {ω : Om} {τ : L2.St} {i : Nat} {p : List Nat} {v0 v : V} {o : O} {os : List O} (r : VRel K F H A ω τ) (hv : τ[i]? = some (some v0)) (ho : ω[i]? = some (some o)) (hs : SubV H v0 p v) (hg : getP o p = some (.l os)) :
    ∃ a vs C Rm, v = .ref a ∧ H a = some (.lst vs) ∧ F a = none ∧ Owns K F H vs os C ∧ (a :: (C ++ Rm)).Nodup ∧ (∀ b ∈ a :: (C ++ Rm), b ∈ A) ∧ (∀ b ∈ A, b ∈ a :: (C ++ Rm)) ∧
      ∀ (F' H' : Hp) (ws : List V) (os' : List O) (C' : List Addr), Sub F F' → Sub F' H' → (∀ b ∈ Rm, F' b = none ∧ H' b = H b) → H' a = some (.lst ws) → F' a = none → Owns K F' H' ws os' C' → (a :: (C' ++ Rm)).Nodup →
        ∃ A', VRel K F' H' A' (ω.set i (some (setP o p (.l os')))) τ ∧ ∀ b ∈ A', b ∈ a :: (C' ++ Rm) := by
  have hi := (List.getElem?_eq_some_iff.mp ho).1
  obtain ⟨A1, B, A2, e, _, h2, h3, _⟩ := r.sl.focus i hi
  subst e
  obtain ⟨v', hv', ow⟩ := h2 o ho
  have ev : v0 = v' := by rw [hv] at hv'; cases hv'; rfl
  subst ev
  obtain ⟨B1, Ca, B2, q1, q2, q3⟩ := ow.place r.sub hs hg
  subst q1
  cases q2 with
  | @l a vs _ C g1 g2 g3 =>
    have nd := r.nd
    refine ⟨a, vs, C, A1 ++ (B1 ++ (B2 ++ A2)), rfl, g1, g2, g3, ?_, fun b hb => ?_, fun b hb => ?_, fun F' H' ws os' C' s1 s2 keep ha hfa ows nd' => ?_⟩
    · refine List.Perm.nodup (List.Perm.symm ?_) nd
      have p1 : (A1 ++ (B1 ++ (a :: C ++ B2) ++ A2)).Perm ((a :: C) ++ (A1 ++ (B1 ++ (B2 ++ A2)))) := by
        have : A1 ++ (B1 ++ (a :: C ++ B2) ++ A2) = (A1 ++ B1) ++ ((a :: C) ++ (B2 ++ A2)) := by simp [List.append_assoc]
        rw [this]
        have t : (a :: C) ++ (A1 ++ (B1 ++ (B2 ++ A2))) = ((a :: C) ++ (A1 ++ B1)) ++ (B2 ++ A2) := by simp [List.append_assoc]
        rw [t, ← List.append_assoc]
        exact List.perm_append_comm.append_right _
      simpa using p1.symm
    · simp only [List.mem_append, List.mem_cons] at hb ⊢; grind
    · simp only [List.mem_append, List.mem_cons] at hb ⊢; grind
    · have inner := q3 F' H' (.l os') (a :: C') s1 (fun b hb => keep b (by
        rcases List.mem_append.mp hb with z | z
        · simp [z]
        · simp [z])) (.l ha hfa ows)
      have outer := h3 F' H' v0 _ _ s1 (fun b hb => keep b (by
        rcases List.mem_append.mp hb with z | z
        · simp [z]
        · simp [z])) inner
      have vset : τ.set i (some v0) = τ := by
        obtain ⟨hk, ek⟩ := List.getElem?_eq_some_iff.mp hv
        rw [← ek, List.set_getElem_self]
      rw [vset] at outer
      refine ⟨_, ⟨s2, outer, ?_⟩, fun b hb => ?_⟩
      · refine List.Perm.nodup ?_ nd'
        have p := (List.perm_append_comm (l₁ := a :: C') (l₂ := A1 ++ B1)).append_right (B2 ++ A2)
        simpa [List.append_assoc] using p
      · simp only [List.mem_append, List.mem_cons] at hb ⊢; grind
end
end VL
/-! VL: places, and what changes the list at a place. -/
namespace VL
open PySem PySem.Spec PyProof.Rows L2 FL
abbrev PlF := Om → Option (Nat × List Nat)
def subO (ω : Om) (q : Nat × List Nat) : Option O := match ω[q.1]? with
  | some (some o) => getP o q.2
  | _ => none
def putO (ω : Om) (q : Nat × List Nat) (o' : O) : Om := match ω[q.1]? with
  | some (some o) => ω.set q.1 (some (setP o q.2 o'))
  | _ => ω
def tPl (K : Frg) (pl : PlF) : TE := fun τ H Q => ∃ F A ω q, VRel K F H A ω τ ∧ pl ω = some q ∧
  ∀ F' H' v, VStep F A H F' A H' → VRel K F' H' A ω τ → Sub H H' → AtPl H' τ q v → Q v H'
def LPl (X : Cx) (e : Expr) (pl : PlF) : Prop := PE X e (tPl X.K pl)
def pV (i : Nat) : PlF := fun ω => match ω[i]? with
  | some (some _) => some (i, [])
  | _ => none
def pIx (pl : PlF) (f : PEF) : PlF := fun ω => match pl ω with
  | some q => (match f (viewA ω), subO ω q with
    | .ok (.int j), some (.l os) => (ixN os.length j).map fun k => (q.1, q.2 ++ [k])
    | _, _ => none)
  | none => none
theorem VRel.subO {K : Frg} {F H : Hp} {A : List Addr} {ω : Om} {τ : L2.St} {q : Nat × List Nat} {v : V} {o1 : O} (r : VRel K F H A ω τ) (h : AtPl H τ q v) (e : VL.subO ω q = some o1) : ∃ B, Own K F H v o1 B ∧ ∀ b ∈ B, b ∈ A := by
  obtain ⟨v0, hv, sv⟩ := h
  unfold VL.subO at e
  split at e
  · rename_i o ho
    obtain ⟨v', B, h1, ow, hB⟩ := r.sl.get ho
    rw [hv] at h1
    cases h1
    obtain ⟨B1, C, B2, q1, q2, _⟩ := ow.place r.sub sv e
    exact ⟨C, q2, fun b hb => hB b (by rw [q1]; simp [hb])⟩
  · cases e
section
variable {X : Cx} {W : WW} {e : Expr} {pos : Pos}
theorem lp_v (i : Nat) {x : Str} {pos : Pos} (hN : X.N[i]? = some x := by rfl) (hv : Vis X.env.scope x := by first | exact Or.inl rfl | exact Or.inr (Or.inl rfl) | exact Or.inr (Or.inr rfl)) (hd : (x == ("__debug__" : Str)) = false := by decide)
    (hcd : (x == ("__classdict__" : Str)) = false := by decide) : LPl X (.Name x pos) (pV i) := by
  refine FL.PE.imp (pe_var hN hv hd hcd) fun τ H Q ⟨F, A, ω, q, r, e, k⟩ => ?_
  unfold pV at e
  split at e
  · rename_i o ho
    cases e
    obtain ⟨v, B, h1, ow, hB⟩ := r.sl.get ho
    exact ⟨v, h1, k F H v .refl r (fun _ _ h => h) ⟨v, h1, .nil⟩⟩
  · cases e
theorem lp_ix {a b : Expr} {pl : PlF} {f : PEF} (ha : LPl X a pl) (hb : PD X W0 b f) (hs : PlainIx b := by intro _ _; rfl) : LPl X (.Subscript a b pos) (pIx pl f) := by
  refine FL.PE.imp (pe_ix ix_list ha hb hs) fun τ H Q ⟨F, A, ω, q, r, e, k⟩ => ?_
  unfold pIx at e
  split at e
  · rename_i q0 hq
    split at e
    · rename_i j os hj ho
      obtain ⟨kk, hk, rfl⟩ := Option.map_eq_some_iff.mp e
      refine ⟨F, A, ω, q0, r, hq, fun F1 H1 v s1 r1 hs1 at1 => ?_⟩
      refine ⟨over F1 H1 A, viewA ω, r1.still.1, r1.still.2, ?_⟩
      rw [hj]
      intro G H2 s2 u ru
      cases ru
      obtain ⟨s3, r3, _⟩ := r1.awake s2
      obtain ⟨v0, hv0, sv⟩ := at1
      have sv2 := sv.mono s2.hsub
      obtain ⟨B, ow, hB⟩ := r3.subO ⟨v0, hv0, sv2⟩ ho
      cases ow with
      | @l a vs _ C g1 g2 g3 =>
        have hlen := g3.length
        have hkl : kk < vs.length := by
          rw [hlen]
          exact (ixN_seq hk).2.1
        refine ⟨a, vs, j, vs[kk], rfl, rfl, .of g1, ?_, ?_⟩
        · unfold atI
          rw [hlen, hk]
          exact List.getElem?_eq_getElem hkl
        · exact k _ H2 _ (s1.trans s3) r3 (fun b o h => s2.hsub b o (hs1 b o h)) ⟨v0, hv0, .snoc g1 (List.getElem?_eq_getElem hkl) sv2⟩
    · cases e
  · cases e
/-- the list at a place gets other items -/
theorem VRel.rewrite {K : Frg} {F H : Hp} {A B : List Addr} {ω : Om} {τ : L2.St} {q : Nat × List Nat} {v : V} {os : List O} (r : VRel K F H A ω τ) (at_ : AtPl H τ q v) (hs : VL.subO ω q = some (.l os)) (hB : ∀ b ∈ B, (∃ u, H b = some u) ∧ F b = none) (nd : (B ++ A).Nodup) :
    ∃ a vs C, v = .ref a ∧ H a = some (.lst vs) ∧ F a = none ∧ Owns K F H vs os C ∧ (C ++ B).Nodup ∧ a ∉ C ++ B ∧ (∀ b ∈ C, b ∈ A) ∧
      ∀ ws os' C', Owns K F H ws os' C' → C'.Nodup → (∀ b ∈ C', b ∈ C ++ B) → ∃ A', VStep F (B ++ A) H F A' (upd H a (.lst ws)) ∧ VRel K F (upd H a (.lst ws)) A' (putO ω q (.l os')) τ ∧ (∀ b ∈ A', b ∈ C → b ∈ C') ∧ (∀ b ∈ A', b ∈ B → b ∈ C') := by
  obtain ⟨v0, hv, sv⟩ := at_
  unfold VL.subO at hs
  split at hs
  case h_2 => cases hs
  rename_i o ho
  have pO : ∀ o', putO ω q o' = ω.set q.1 (some (setP o q.2 o')) := fun o' => by unfold putO; simp only [ho]
  obtain ⟨a, vs, C, Rm, e1, g1, g2, ows, nd1, m1, m2, plug⟩ := r.write hv ho sv hs
  have BA := nodup_apart nd
  have aB : a ∉ B := fun z => BA a z (m1 a List.mem_cons_self)
  have n1 := List.nodup_cons.mp nd1
  have aC : a ∉ C := fun z => n1.1 (List.mem_append_left _ z)
  have aR : a ∉ Rm := fun z => n1.1 (List.mem_append_right _ z)
  have nC := List.nodup_append.mp n1.2
  have CB : (C ++ B).Nodup := nodup_join nC.1 (List.nodup_append.mp nd).1 fun b hb hb' => BA b hb' (m1 b (List.mem_cons_of_mem _ (List.mem_append_left _ hb)))
  have aCB : a ∉ C ++ B := fun z => (List.mem_append.mp z).elim aC aB
  refine ⟨a, vs, C, e1, g1, g2, ows, CB, aCB, fun b hb => m1 b (List.mem_cons_of_mem _ (List.mem_append_left _ hb)), fun ws os' C' ow' nC' sub' => ?_⟩
  have keep : ∀ b, b ≠ a → (upd H a (.lst ws)) b = H b := fun b hb => by rw [upd_ne hb]
  have ow2 : Owns K F (upd H a (.lst ws)) ws os' C' := ow'.move (fun _ _ h => h) fun b hb => ⟨(ow'.at b hb).2, keep b fun e => aCB (e ▸ sub' b hb)⟩
  have subF : Sub F (upd H a (.lst ws)) := fun b o h => by rw [keep b (ne_of_none h g2)]; exact r.sub b o h
  have CR : ∀ b ∈ C', b ∉ Rm := fun b hb hr => by
    rcases List.mem_append.mp (sub' b hb) with z | z
    · exact nC.2.2 b z b hr rfl
    · exact BA b z (m1 b (List.mem_cons_of_mem _ (List.mem_append_right _ hr)))
  obtain ⟨A', r', hA'⟩ := plug F (upd H a (.lst ws)) ws os' C' (fun _ _ h => h) subF (fun b hb => ⟨r.fnone (m1 b (List.mem_cons_of_mem _ (List.mem_append_right _ hb))), keep b fun e => aR (e ▸ hb)⟩) upd_same g2 ow2
    (List.nodup_cons.mpr ⟨fun z => (List.mem_append.mp z).elim (fun z => aCB (sub' a z)) aR, nodup_join nC' nC.2.1 CR⟩)
  refine ⟨A', ⟨fun _ _ h => h, fun _ _ h => .inl h, fun b hb => .inl ?_, fun b o h hn => ?_, fun b h => ?_⟩, by rw [pO]; exact r', fun b hb hc => ?_, fun b hb hc => ?_⟩
  · rcases List.mem_cons.mp (hA' b hb) with z | z
    · exact List.mem_append_right _ (z ▸ m1 a List.mem_cons_self)
    · rcases List.mem_append.mp z with z | z
      · rcases List.mem_append.mp (sub' b z) with y | y
        · exact List.mem_append_right _ (m1 b (List.mem_cons_of_mem _ (List.mem_append_left _ y)))
        · exact List.mem_append_left _ y
      · exact List.mem_append_right _ (m1 b (List.mem_cons_of_mem _ (List.mem_append_right _ z)))
  · rw [keep b fun e => hn (List.mem_append_right _ (e ▸ m1 a List.mem_cons_self))]; exact h
  · by_cases hb : b = a
    · rw [hb, upd_same] at h; cases h
    · rw [keep b hb] at h; exact h
  · rcases List.mem_cons.mp (hA' b hb) with z | z
    · exact absurd (z ▸ hc) aC
    · rcases List.mem_append.mp z with z | z
      · exact z
      · exact absurd rfl (nC.2.2 b hc b z)
  · rcases List.mem_cons.mp (hA' b hb) with z | z
    · exact absurd (z ▸ hc) aB
    · rcases List.mem_append.mp z with z | z
      · exact z
      · exact absurd (m1 b (List.mem_cons_of_mem _ (List.mem_append_right _ z))) (BA b hc)
theorem subO_v {ω : Om} {i : Nat} {o : O} (h : ω[i]? = some (some o)) : subO ω (i, []) = some o := by
  unfold subO
  simp only [h]
  cases o <;> (unfold getP; rfl)
theorem putO_v {ω : Om} {i : Nat} {o o' : O} (h : ω[i]? = some (some o)) : putO ω (i, []) o' = ω.set i (some o') := by
  unfold putO
  simp only [h]
  cases o <;> (unfold setP; rfl)
/-! ### xs.append(e), xs.extend(e), .. of a name -/
section
variable {P : List Nat} {f : EO} {i : Nat} {x name : Str} {npos apos cpos : Pos}
/-- one argument, that may be a new object -/
theorem tEO_arg {e : Expr} {f : EO} (h : XO X W e f) (hs : starEach [e] X.env = (false, eval e X.env) :: starEach [] X.env := by rfl) : XOs X W [e] (eoCons f eoNil) := eo_cons h eo_nil hs
def cApp (i : Nat) (f : EO) : VS := fun ω => match ω[i]? with
  | some (some (.l _)) => bnd (f ω) fun o ω => match ω[i]? with
    | some (some (.l os)) => if os.length < sizeLine then .ok (.nx, ω.set i (some (.l (os ++ [o])))) else .no
    | _ => .no
  | _ => .no
/-- behind an expression whose new objects stand apart -/
theorem VFin.bndO {α : Type} {K : Frg} {W : WW} {τ : L2.St} {F H : Hp} {A : List Addr} {D : Ends} {r : RX α} {f : α → Om → RX Fl} {P : List Nat} (h : VFin K W P τ F A H (VL.bnd r f) D) :
    VOut K W τ F A H r fun a F' A' H' ω' => VRel K F' H' A' ω' τ ∧ ∀ B : List Addr, (∀ b ∈ B, b ∈ A ∨ H b = none) → VFin K W P τ F' (B ++ A') H' (f a ω') D := by
  cases r with
  | ok a => obtain ⟨a, ω⟩ := a; exact fun F' A' H' s r => ⟨r, fun B hB => VFin.step h (s.wide hB) (.refl _ _)⟩
  | ex x => obtain ⟨x, ω⟩ := x; exact fun F' A' H' cls dx s r rx => h F' A' H' τ cls dx s r (.refl _ _) rx
  | no => exact h
theorem VOut.pair {K : Frg} {τ : L2.St} {F H : Hp} {A : List Addr} {r : RX O} {k : O → Hp → List Addr → Hp → Om → Prop} {k' : List O → Hp → List Addr → Hp → Om → Prop} (h : VOut K W τ F A H r k) (w : ∀ o F' A' H' ω', k o F' A' H' ω' → k' [o] F' A' H' ω') :
    VOut K W τ F A H (VL.bnd r fun d ω => VL.bnd (eoNil ω) fun ds ω => .ok (d :: ds, ω)) k' := by
  cases r with
  | ok p => obtain ⟨o, ω⟩ := p; exact fun F' A' H' s r => w o F' A' H' ω (h F' A' H' s r)
  | ex x => exact h
  | no => exact h
theorem own1 {K : Frg} {F H : Hp} {vs : List V} {o : O} {B : List Addr} (h : Owns K F H vs [o] B) : ∃ v, vs = [v] ∧ Own K F H v o B := by
  cases h with
  | cons q r => cases r; exact ⟨_, rfl, by rw [List.append_nil]; exact q⟩
theorem tyV_l {K : Frg} {F H : Hp} {v : V} {os : List O} {B : List Addr} (ow : Own K F H v (.l os) B) : tyV K "list" v H := by
  cases ow with
  | l h1 h2 h3 => exact .inl ⟨rfl, _, .of h1⟩
theorem s_app (i : Nat) (he : XO X W e f) (hN : X.N[i]? = some x := by rfl) (hv : Vis X.env.scope x := by first | exact Or.inl rfl | exact Or.inr (Or.inl rfl) | exact Or.inr (Or.inr rfl)) (hd : (x == ("__debug__" : Str)) = false := by decide) (hcd : (x == ("__classdict__" : Str)) = false := by decide)
    (hbase : attributeBase (.Name x npos) "append" X.env (eval (.Name x npos) X.env) = eval (.Name x npos) X.env := by rfl)
    (hfew : ((backTo cpos (starEach [e] X.env)).all (fun x => !x.1) && (backToKw cpos (keywordEach [] X.env)).all (fun x => x.1.isSome)
      && decide ([e].length + ([] : List Keyword).length + (if ([] : List Keyword).isEmpty then 0 else 1) < 30)) = true := by rfl)
    (hline : (apos.endLine == cpos.line) = true := by rfl) (hs : starEach [e] X.env = (false, eval e X.env) :: starEach [] X.env := by rfl) (hplain : (backTo cpos (starEach [] X.env)).any (·.1) = false := by rfl)
    (hsw : swapsWith (.Call (.Attribute (.Name x npos) "append" apos) [e] [] cpos) none pos.line X.env = pure false := by rfl) :
    SV X W P (.Expr (.Call (.Attribute (.Name x npos) "append" apos) [e] [] cpos) pos) (cApp i f) := by
  refine FL.PS.imp (ps_expr (pe_bm PySem.F.plainAttrs_list PySem.F.slot_list_append PySem.F.type_list_append (show MtR X "list.append" rAppend from mt_append) (pe_var hN hv hd hcd) (tEO_arg he hs) hbase hfew hline hs hplain) hsw) fun D τ H ⟨F, A, ω, r, k⟩ => ?_
  unfold cApp at k
  split at k
  case h_2 => exact k.elim
  rename_i os0 h0
  obtain ⟨v, B0, hv0, ow0, _⟩ := r.sl.get h0
  refine ⟨v, hv0, tyV_l ow0, F, A, ω, r, VOut.pair (VFin.bndO k) fun o F1 A1 H1 ω1 ⟨r1, k1⟩ vs B ows nd hB => ?_⟩
  have k1 := k1 B hB
  obtain ⟨y, rfl, ow⟩ := own1 ows
  split at k1
  case h_2 => exact k1.elim
  rename_i os h1
  split at k1
  case isFalse => exact k1.elim
  rename_i hz
  obtain ⟨v', B', hv1, ow1, _⟩ := r1.sl.get h1
  have ev : v' = v := by rw [hv0] at hv1; cases hv1; rfl
  subst ev
  obtain ⟨a, xs, C, e1, g1, g2, owl, ndCB, aCB, _, plug⟩ := r1.rewrite (AtPl.nil hv1) (subO_v h1) (fun b hb => let ⟨⟨u, h, _⟩, hf⟩ := ow.at b hb; ⟨⟨u, h⟩, hf⟩) nd
  subst e1
  refine ⟨a, xs, y, rfl, rfl, g1, by rw [owl.length]; exact hz, ?_⟩
  have m := owl.append (.cons ow .nil)
  rw [List.append_nil] at m
  obtain ⟨A', s2, r2, _⟩ := plug _ _ _ m ndCB fun b hb => hb
  rw [putO_v h1] at r2
  exact k1 F1 A' _ τ s2 r2 (.refl _ _)
end
end
end VL
/-! VL: xs[i] = e, xs[i] += e, pop, extend. -/
namespace VL
open PySem PySem.Spec PyProof.Rows L2 FL
section
variable {X : Cx} {W : WW} {P : List Nat} {e o i : Expr} {pos : Pos}
def cSub (pl : PlF) (fi : PEF) (f : EO) : VS := fun ω => bnd (f ω) fun o ω => match pl ω, fi (viewA ω) with
  | some q, .ok (.int j) => (match subO ω q with
    | some (.l os) => (match ixN os.length j with
      | some k => .ok (.nx, putO ω q (.l (os.set k o)))
      | none => .no)
    | _ => .no)
  | _, _ => .no
theorem Own.there {K : Frg} {F H : Hp} {v : V} {o : O} {B : List Addr} (ow : Own K F H v o B) : ∀ b ∈ B, ∃ u, H b = some u := fun b hb => let ⟨⟨u, h, _⟩, _⟩ := ow.at b hb; ⟨u, h⟩
theorem s_sub {pl : PlF} {fi : PEF} {f : EO} {pos' : Pos} (he : XO X W e f) (ho : LPl X o pl) (hi : PD X W0 i fi)
    (ha : ∀ v, assign (.Subscript o i pos') X.env v = (do
      let ov ← holding [v] (eval o X.env)
      let iv ← holding [v, ov] (eval i X.env)
      standAt pos'
      holding [v, ov, iv] (setItem ov iv v)
      release [v, ov, iv] []) := by intro _; rfl)
    (hs : swapsWithSole [.Subscript o i pos'] e pos.line X.env = pure false := by rfl) (hw : swappedStores [.Subscript o i pos'] e X.env = pure none := by rfl)
    (h1 : (assignEach [.Subscript o i pos'] X.env).map (·.2) = [assign (.Subscript o i pos') X.env] := by rfl) : SV X W P (.Assign [.Subscript o i pos'] e pos) (cSub pl fi f) := by
  refine FL.PS.imp (ps_asg he (pg_sub ho hi set_list ha) hs hw h1) fun D τ H ⟨F, A, ω, r, k⟩ => ⟨F, A, ω, r, (VFin.bndO k).imp fun oy F1 A1 H1 ω1 _ _ ⟨r1, k1⟩ y B ow nd hB => ?_⟩
  have k1 := k1 B hB
  split at k1
  case h_2 => exact k1.elim
  rename_i q j hq hj
  split at k1
  case h_2 => exact k1.elim
  rename_i os hso
  split at k1
  case h_2 => exact k1.elim
  rename_i kk hk
  refine ⟨F1, A1, ω1, q, r1, hq, fun F2 H2 v s2 r2 hs2 at2 => ?_⟩
  refine ⟨over F2 H2 A1, viewA ω1, r2.still.1, r2.still.2, ?_⟩
  rw [hj]
  intro G H3 s3 u ru
  cases ru
  obtain ⟨s4, r4, _⟩ := r2.awake s3
  have s24 := s2.trans s4
  have BA := nodup_apart nd
  have ow4 := ow.frame BA s24
  obtain ⟨v0, hv0, sv⟩ := at2
  obtain ⟨a, xs, C, e1, g1, g2, owl, ndCB, aCB, _, plug⟩ := r4.rewrite (q := q) ⟨v0, hv0, sv.mono s3.hsub⟩ hso (fun b hb => let ⟨⟨u, h, _⟩, hf⟩ := ow4.at b hb; ⟨⟨u, h⟩, hf⟩) nd
  subst e1
  refine ⟨a, xs, j, kk, rfl, rfl, g1, by rw [owl.length]; exact hk, ?_⟩
  have hkl := (ixN_seq hk).2.1
  obtain ⟨vk, B1, Ck, B2, f1, f2, f3, f4⟩ := Owns.focus owl (List.getElem?_eq_getElem hkl)
  subst f2
  have m := f4 (under G A1) H3 y oy B (fun _ _ h => h) (fun b hb => ⟨(owl.at b (by
    rcases List.mem_append.mp hb with z | z
    · simp [z]
    · simp [z])).2, rfl⟩) ow4
  obtain ⟨A', s5, r5, _⟩ := plug _ _ _ m (by
    have := ndCB
    simp only [List.nodup_append, List.mem_append] at this ⊢
    grind) (fun b hb => by simp only [List.mem_append] at hb ⊢; grind)
  have s6 : VStep F1 (B ++ A1) H1 (under G A1) (B ++ A1) H3 := by
    refine ⟨s24.fsub, fun b o h => ?_, fun b h => .inl h, fun b o h hn => s24.keep b o h fun z => hn (List.mem_append_right _ z), s24.alive⟩
    rcases s24.fnew b o h with z | z | z
    · exact .inl z
    · exact .inr (.inl (List.mem_append_right _ z))
    · exact .inr (.inr z)
  exact k1 (under G A1) A' _ τ (s6.trans s5) r5 (.refl _ _)
/-! ### xs[i] += e -/
theorem get_list : PGet X (fun x y H Q => ∃ (p : Addr) (xs : List V) (i : Int) (v : V), x = .ref p ∧ y = .int i ∧ 0 ≤ i ∧ H p = some (.lst xs) ∧ xs[i.toNat]? = some v ∧ Q v H) := by
  intro pins s σ H x y v u Q I rx ry ⟨p, xs, i, z, hx, hy, h0, hq, he, q⟩
  subst hx hy
  cases rx
  obtain ⟨t, rfl⟩ := ry
  obtain ⟨its, r, pl, hz⟩ := I.list (.of hq)
  obtain ⟨w, ew, rw'⟩ := r.get he
  have hl := r.length
  have hn := line63
  refine wpAny_getItem_list pl.isList h0 ?_ (by simpa using ew) ⟨z, H, I, rw', q⟩
  have := (List.getElem?_eq_some_iff.mp he).1
  omega
def cAugS (g : G2) (pl : PlF) (fi : PEF) (f : PEF) : VS := fun ω => match pl ω, fi (viewA ω), f (viewA ω) with
  | some q, .ok (.int j), .ok dy => (match subO ω q with
    | some (.l os) => if 0 ≤ j then (match os[j.toNat]? with
      | some (.d dx) => (match g dx dy with
        | some (.d d) => if flat dy = true ∧ flat d = true then .ok (.nx, putO ω q (.l (os.set j.toNat (.d d)))) else .no
        | _ => .no)
      | _ => .no) else .no
    | _ => .no)
  | _, _, _ => .no
theorem s_augS {g : G2} {op : Operator} {pl : PlF} {fi f : PEF} {tpos : Pos} (ho' : VOp X (inplaceOp op) g) (ho : LPl X o pl) (hi : PD X W0 i fi) (he : PD X W0 e f)
    (ha : ∀ ov iv new, augStore i ov iv new = (do holding [new, ov, iv] (setItem ov iv new); release [new, ov, iv] []; pure .next) := by intros; rfl) : SV X W P (.AugAssign (.Subscript o i tpos) op e pos) (cAugS g pl fi f) := by
  refine FL.PS.imp (ps_augS ho hi get_list he (show PIp X op (r2 X.K g) from fun pins s σ H x y v u Q I rx ry q => ho' pins s σ H x y v u Q I rx ry q) set_list ha) fun D τ H ⟨F, A, ω, r, k⟩ => ?_
  unfold cAugS at k
  split at k
  case h_2 => exact k.elim
  rename_i q j dy hq hj hdy
  split at k
  case h_2 => exact k.elim
  rename_i os hso
  split at k
  case isFalse => exact k.elim
  rename_i h0
  split at k
  case h_2 => exact k.elim
  rename_i dx hdx
  split at k
  case h_2 => exact k.elim
  rename_i d hd
  split at k
  case isFalse => exact k.elim
  rename_i hfl
  refine ⟨F, A, ω, q, r, hq, fun F2 H2 v s2 r2 hs2 at2 => ?_⟩
  refine ⟨over F2 H2 A, viewA ω, r2.still.1, r2.still.2, ?_⟩
  rw [hj]
  intro G H3 s3 u ru
  cases ru
  obtain ⟨s4, r4, _⟩ := r2.awake s3
  obtain ⟨v0, hv0, sv⟩ := at2
  have sv3 := sv.mono s3.hsub
  obtain ⟨Bq, owq, hBq⟩ := r4.subO (q := q) ⟨v0, hv0, sv3⟩ hso
  cases owq with
  | @l a vs _ C g1 g2 g3 =>
    obtain ⟨vk, B1, Ck, B2, f1, f2, f3, f4⟩ := Owns.focus g3 hdx
    refine ⟨a, vs, j, vk, rfl, rfl, h0, g1, f1, ?_⟩
    cases f3 with
    | d rx =>
      refine ⟨over _ H3 A, viewA ω, r4.still.1, r4.still.2, ?_⟩
      rw [hdy]
      intro G' H5 s5 y ry
      obtain ⟨s6, r6, low⟩ := r4.awake s5
      refine ⟨_, dx, dy, .d d, r6.sub, rx.mono s6.fsub, Rep.low low ry hfl.1, hd, fun F7 H7 z B s7 owz fr => ?_⟩
      obtain ⟨s8, r8⟩ := r6.pure s7
      obtain ⟨a', xs, C', e1, q1, q2, owl, ndCB, aCB, _, plug⟩ := r8.rewrite (q := q) (B := []) ⟨v0, hv0, sv3.mono fun b o h => s7.hsub b o (s5.hsub b o h)⟩ hso (fun b hb => by simp at hb) (by simpa using r8.nd)
      cases e1
      have hkl : j.toNat < os.length := (List.getElem?_eq_some_iff.mp hdx).1
      refine ⟨a, xs, j, j.toNat, rfl, rfl, q1, ?_, ?_⟩
      · unfold ixN
        rw [owl.length, if_pos h0, if_pos (by omega)]
      · obtain ⟨vk', D1, Dk, D2, p1, p2, p3, p4⟩ := Owns.focus owl hdx
        subst p2
        cases owz with
        | d rz =>
          have m := p4 F7 H7 z (.d d) [] (fun _ _ h => h) (fun b hb => ⟨(owl.at b (by
            rcases List.mem_append.mp hb with z | z
            · simp [z]
            · simp [z])).2, rfl⟩) (.d rz)
          obtain ⟨A', s9, r9, _⟩ := plug _ _ _ m (by
            have := ndCB
            simp only [List.nodup_append, List.mem_append, List.append_nil, List.nil_append] at this ⊢
            grind) (fun b hb => by simp only [List.mem_append, List.nil_append, List.append_nil] at hb ⊢; grind)
          rw [List.nil_append] at s9
          exact k F7 A' _ τ ((((s2.trans s4).trans s6).trans s8).trans s9) r9 (.refl _ _)
/-! ### xs.pop(), xs.extend(..) -/
def cPop (i : Nat) : EO := fun ω => match ω[i]? with
  | some (some (.l os)) => (match os[os.length - 1]? with
    | some o => .ok (o, ω.set i (some (.l os.dropLast)))
    | none => .no)
  | _ => .no
end
end VL
/-! VL: defs and calls of defs. -/
namespace VL
open PySem PySem.Spec PyProof.Rows L2 FL
/-! ### a def that changes nothing that stood -/
def startO (n : Nat) (os : List O) : Om := os.map some ++ List.replicate (n - os.length) none
def fnP (n : Nat) (body : VS) : PFn := fun ds => match body (startO n (ds.map .d)) with
  | .ok (.nx, _) => .ok (.d .non)
  | .ok (.rt o, _) => .ok o
  | .ex (x, _) => .ex x
  | _ => .no
theorem slo_none {K : Frg} {F H : Hp} : ∀ (n : Nat) {m : Nat}, m = n → SlO K F H (List.replicate n none) (List.replicate m none) []
  | 0, _, rfl => .nil
  | n + 1, _, rfl => .un (slo_none n rfl)
theorem slo_app {K : Frg} {F H : Hp} {ω' : Om} {τ' : L2.St} {A' : List Addr} (r' : SlO K F H ω' τ' A') : ∀ {vs : List V} {os : List O} {B : List Addr}, Owns K F H vs os B → SlO K F H (os.map some ++ ω') (vs.map some ++ τ') (B ++ A')
  | _, _, _, .nil => r'
  | _, _, _, .cons q r => by rw [List.append_assoc]; exact .v q (slo_app r' r)
theorem start_ok {K : Frg} {F H : Hp} {N : List Str} {vs : List V} {os : List O} {B : List Addr} (r : Owns K F H vs os B) : SlO K F H (startO N.length os) (L2.start N vs) B := by
  have h := slo_app (slo_none (K := K) (F := F) (H := H) (N.length - os.length) (m := N.length - vs.length) (by rw [r.length])) r
  rw [List.append_nil] at h
  exact h
section
variable {P : Program} {w : World} {K : Frg} {mg : Str → Option Value} {base : Heap} {x qual : Str} {params : Arguments} {body : List Stmt} {scope : Scope} {dvs : List V} {kws : List (Str × V)} {f : Addr} {fd : FuncData}
theorem defP_ok {N ps : List Str} {k : Nat} {g : VS} (F : FunD K x qual params body scope dvs kws f fd) (S : FnScope N ps scope)
    (hbody : ∀ (cdv : Value) (A : Around) (outer : List Env) (s : Shared) (H : Hp) (E : XK), Room k (A.deeper (envOfC qual scope s.heap.objs.size f cdv)) → SVs (cxOf CX0 P w K mg base N qual scope f cdv A outer s H E).nox W0 [] body g) :
    FnOk P w K mg base CX0 (k + 1) f fd ps (spP K ps.length (fnP N.length g)) := by
  refine F.ok S (fun vs H Q E h => ?_) (fun cdv A outer s H vs Q E hr h => ⟨_, PSs.nox (hbody cdv A outer s H E hr), ?_⟩)
  · obtain ⟨F, ds, s, rs, hn, _⟩ := h
    rw [rs.length, hn]
  · obtain ⟨F, ds, s, rs, hn, k⟩ := h
    have st := start_ok (N := N) (Reps.owns (H := H) rs)
    refine ⟨F, [], startO N.length (ds.map .d), ⟨s, st, List.nodup_nil⟩, ?_⟩
    have up : ∀ {F' A' H'}, VStep F [] H F' A' H' → Sub F' H' → PStep F H F' H' := fun {F' A' H'} s1 s2 => ⟨s1.fsub, fun b o h => by
      rcases s1.fnew b o h with z | z | z
      · exact .inl z
      · simp at z
      · exact .inr z, fun b o h => s1.keep b o h (by simp), s2⟩
    unfold fnP at k
    cases q : g (startO N.length (ds.map .d)) with
    | ok p =>
      obtain ⟨fl, ω⟩ := p
      rw [q] at k
      cases fl with
      | nx => exact fun F' A' H' τ' s1 r1 _ => k F' H' .non [] (up s1 r1.sub) (.d .non) ⟨List.nodup_nil, fun b h => by simp at h⟩
      | rt o => exact fun F' A' B H' v τ' s1 r1 _ ow nd => k F' H' v B (up s1 r1.sub) ow ⟨(List.nodup_append.mp nd).1, fun b hb => (s1.anew b (List.mem_append_left _ hb)).elim (fun z => by simp at z) id⟩
      | bk => exact k.elim
      | ct => exact k.elim
    | ex x => rw [q] at k; exact k.elim
    | no => rw [q] at k; exact k.elim
end
/-- the def that the module's name x stands for does what f does -/
structure OkP (P : Program) (w : World) (K : Frg) (mg : Str → Option Value) (k : Nat) (x : Str) (ps : List Str) (f : PFn) : Prop where
  ex : ∃ fd, (∀ base : Heap, FnOk P w K mg base CX0 k (He.ga K x) fd ps (spP K ps.length f)) ∧ Binds K fd ps [] ∧ ∀ (s : Shared) (us : List Value), us.length = ps.length → BindsTo s fd ⟨us, []⟩ (ps.zip us)
  kp : PySem.W.keepIn K (.ref (He.ga K x)) = true
  g : mg x = some (.ref (He.ga K x))
section
variable {P : Program} {w : World} {K : Frg} {mg : Str → Option Value}
theorem mkP {x : Str} {params : Arguments} {body : List Stmt} {scope : Scope} {N ps : List Str} {k : Nat} {g : VS} (F : ∃ fd, FunD K x x params body scope [] [] (He.ga K x) fd) (hg : mg x = some (.ref (He.ga K x))) (S : FnScope N ps scope)
    (hb : ∀ (kV doc pm : Value) (an : Option Addr) (cdv ct : Value) (us : List Value), us.length = ps.length → bindArgs (PySem.W.fnOf x x params body scope .none kV doc pm an cdv ct) ⟨us, []⟩ = pure (ps.zip us))
    (hbody : ∀ (base : Heap) (cdv : Value) (A : Around) (outer : List Env) (s : Shared) (H : Hp) (E : XK), Room k (A.deeper (envOfC x scope s.heap.objs.size (He.ga K x) cdv)) → SVs (cxOf CX0 P w K mg base N x scope (He.ga K x) cdv A outer s H E).nox W0 [] body g) :
    OkP P w K mg (k + 1) x ps (fnP N.length g) := by
  obtain ⟨fd, F⟩ := F
  exact ⟨⟨fd, fun base => defP_ok F S (hbody base), F.bindsN hb, fun s us hl => FunD.bindsA F hb s us hl⟩, F.kp, hg⟩
theorem OkP.mono {j k : Nat} {x : Str} {ps : List Str} {f : PFn} (O : OkP P w K mg j x ps f) (h : j ≤ k) : OkP P w K mg k x ps f := by
  obtain ⟨fd, G, b⟩ := O.ex
  exact ⟨⟨fd, fun base => (G base).mono h, b⟩, O.kp, O.g⟩
end
def cCall (f : PFn) (n : Nat) (fs : PAF) : POF := fun σ => (fs σ).bind fun ds => if ds.length = n then (match f ds with
  | .ok o => .ok o
  | _ => .no) else .no
def eCall (f : PFn) (n : Nat) (fs : EAF) : EO := fun ω => bnd (fs ω) fun ds ω => if ds.length = n then (match f ds with
  | .ok o => .ok (o, ω)
  | _ => .no) else .no
section
variable {X : Cx} {W : WW} {k : Nat} {x : Str} {ps : List Str} {f : PFn} {p pos : Pos} {e : Expr} {es : List Expr}
theorem o_call {fs : PAF} {n : Nat} (O : OkP X.prog X.w X.K X.mg k x ps f) (hr : Room k X.A) (ha : PDs X W (e :: es) fs) (hn : ps.length = n := by rfl) (hg : Gl X x := by rfl) (hdb : (x == ("__debug__" : Str)) = false := by decide)
    (hs : starEach (e :: es) X.env = (false, eval e X.env) :: starEach es X.env := by rfl) (hpl : (backTo pos (starEach es X.env)).any (·.1) = false := by rfl) : PO X W (.Call (.Name x p) (e :: es) [] pos) (cCall f n fs) := by
  subst hn
  obtain ⟨fd, G, b, _⟩ := O.ex
  refine FL.PE.imp (pe_call (E := E0) (G _) hr hg O.g O.kp b .nil pass0 ha hdb hs hpl) fun τ H Q ⟨F, σ, s, so, k⟩ => ⟨F, σ, s, so, (Out.bind k).imp fun ds F1 H1 s1 k1 vs rs => ?_⟩
  split at k1
  case isFalse => exact k1.elim
  rename_i hl
  show spP X.K ps.length f (vs ++ []) H1 Q E0
  rw [List.append_nil]
  refine ⟨F1, ds, s1.sub, rs, hl, ?_⟩
  cases q : f ds with
  | ok o => rw [q] at k1; exact fun F' H' v B s2 ow fr => k1 F' H' s2 v B ow ⟨fr.1, fun b hb => s1.gone (fr.2 b hb)⟩
  | ex y => rw [q] at k1; exact k1.elim
  | no => rw [q] at k1; exact k1.elim
end
/-! ### a def that changes objects of its caller: those of the parameters in P -/
abbrev MFn := List O → R Exn (O × List O)
def pickO : List Nat → Om → Option (List O)
  | [], _ => some []
  | p :: P, ω => match ω[p]? with
    | some (some o) => (pickO P (ω.set p none)).map fun l => o :: l
    | _ => none
def fnM (n : Nat) (P : List Nat) (body : VS) : MFn := fun os => match body (startO n os) with
  | .ok (.nx, ω) => (match pickO P ω with
    | some l => .ok (.d .non, l)
    | none => .no)
  | .ok (.rt o, ω) => (match pickO P ω with
    | some l => .ok (o, l)
    | none => .no)
  | .ex (x, _) => .ex x
  | _ => .no
def spM (K : Frg) (n : Nat) (P : List Nat) (f : MFn) : Sp := fun vs H Q _ => ∃ F A os, Sub F H ∧ Owns K F H vs os A ∧ A.Nodup ∧ os.length = n ∧ match f os with
  | .ok (o, ps) => ∀ F' A' B H' v us, VStep F A H F' (B ++ A') H' → Sub F' H' → Paired (fun p u => vs[p]? = some u) P us → Owns K F' H' us ps A' → Own K F' H' v o B → (B ++ A').Nodup → Q v H'
  | _ => False
theorem VRel.pick {K : Frg} {F H : Hp} {τ : L2.St} : ∀ {P : List Nat} {A : List Addr} {ω : Om} {ps : List O}, VRel K F H A ω τ → pickO P ω = some ps → ∃ us A', Owns K F H us ps A' ∧ A'.Nodup ∧ (∀ b ∈ A', b ∈ A) ∧ Paired (fun p u => τ[p]? = some (some u)) P us
  | [], A, ω, ps, r, e => by
    unfold pickO at e
    cases e
    exact ⟨[], [], .nil, List.nodup_nil, fun b h => by simp at h, .nil⟩
  | p :: P, A, ω, ps, r, e => by
    unfold pickO at e
    split at e
    case h_2 => cases e
    rename_i o ho
    obtain ⟨l, e1, rfl⟩ := Option.map_eq_some_iff.mp e
    obtain ⟨v, B, A', hv, ow, r', nd, hm⟩ := r.take ho
    obtain ⟨us, A2, h1, h2, h3, h4⟩ := VRel.pick r' e1
    exact ⟨v :: us, B ++ A2, .cons ow h1, nodup_join (List.nodup_append.mp nd).1 h2 fun b hb h => nodup_apart nd b hb (h3 b h), fun b hb => hm b (by
      rcases List.mem_append.mp hb with z | z
      · exact List.mem_append_left _ z
      · exact List.mem_append_right _ (h3 b z)), .cons hv h4⟩
section
variable {P : Program} {w : World} {K : Frg} {mg : Str → Option Value} {base : Heap} {x qual : Str} {params : Arguments} {body : List Stmt} {scope : Scope} {dvs : List V} {kws : List (Str × V)} {f : Addr} {fd : FuncData}
theorem start_get {N : List Str} {vs : List V} {p : Nat} (h : p < vs.length) : (L2.start N vs)[p]? = some (vs[p]?) := by
  unfold L2.start
  rw [List.getElem?_append_left (by simpa using h), List.getElem?_map, List.getElem?_eq_getElem h]
  rfl
theorem defM_ok {N ps : List Str} {k : Nat} {Pn : List Nat} {g : VS} (hP : ∀ p ∈ Pn, p < ps.length) (F : FunD K x qual params body scope dvs kws f fd) (S : FnScope N ps scope)
    (hbody : ∀ (cdv : Value) (A : Around) (outer : List Env) (s : Shared) (H : Hp) (E : XK), Room k (A.deeper (envOfC qual scope s.heap.objs.size f cdv)) → SVs (cxOf CX0 P w K mg base N qual scope f cdv A outer s H E).nox W0 Pn body g) :
    FnOk P w K mg base CX0 (k + 1) f fd ps (spM K ps.length Pn (fnM N.length Pn g)) := by
  refine F.ok S (fun vs H Q E h => ?_) (fun cdv A outer s H vs Q E hr h => ⟨_, PSs.nox (hbody cdv A outer s H E hr), ?_⟩)
  · obtain ⟨F, A, os, s, rs, nd, hn, _⟩ := h
    rw [rs.length, hn]
  · obtain ⟨F, A, os, s, rs, nd, hn, k⟩ := h
    have st := start_ok (N := N) rs
    refine ⟨F, A, startO N.length os, ⟨s, st, nd⟩, ?_⟩
    have vl : vs.length = ps.length := by rw [rs.length, hn]
    have same : ∀ {us : List V} {τ' : L2.St}, Pin Pn (L2.start N vs) τ' → Paired (fun p u => τ'[p]? = some (some u)) Pn us → Paired (fun p u => vs[p]? = some u) Pn us := fun {us τ'} pin => by
      intro h
      have key : ∀ {Q : List Nat} {us : List V}, (∀ p ∈ Q, p ∈ Pn) → Paired (fun p u => τ'[p]? = some (some u)) Q us → Paired (fun p u => vs[p]? = some u) Q us := by
        intro Q
        induction Q with
        | nil => intro us _ h; cases h; exact .nil
        | cons q Q ih =>
          intro us hq h
          cases h with
          | cons a b =>
            refine .cons ?_ (ih (fun p hp => hq p (List.mem_cons_of_mem _ hp)) b)
            have hp := hq q List.mem_cons_self
            rw [pin q hp, start_get (by rw [vl]; exact hP q hp)] at a
            exact Option.some.inj a
      exact key (fun _ h => h) h
    unfold fnM at k
    cases q : g (startO N.length os) with
    | ok p =>
      obtain ⟨fl, ω⟩ := p
      rw [q] at k
      cases fl with
      | nx =>
        intro F' A' H' τ' s1 r1 pin
        simp only at k
        cases hl : pickO Pn ω with
        | none => rw [hl] at k; exact k.elim
        | some l =>
        rw [hl] at k
        obtain ⟨us, A2, h1, h2, h3, h4⟩ := r1.pick hl
        exact k F' A2 [] H' .non us (s1.less fun b hb => h3 b (by simpa using hb)) r1.sub (same pin h4) h1 (.d .non) (by simpa using h2)
      | rt o =>
        intro F' A' B H' v τ' s1 r1 pin ow nd'
        simp only at k
        cases hl : pickO Pn ω with
        | none => rw [hl] at k; exact k.elim
        | some l =>
        rw [hl] at k
        obtain ⟨us, A2, h1, h2, h3, h4⟩ := r1.pick hl
        have ndp := List.nodup_append.mp nd'
        exact k F' A2 B H' v us (s1.less fun b hb => (List.mem_append.mp hb).elim (fun z => List.mem_append_left _ z) fun z => List.mem_append_right _ (h3 b z)) r1.sub (same pin h4) h1 ow (nodup_join ndp.1 h2 fun b hb h => ndp.2.2 b hb b (h3 b h) rfl)
      | bk => exact k.elim
      | ct => exact k.elim
    | ex x => rw [q] at k; exact k.elim
    | no => rw [q] at k; exact k.elim
end
structure OkM (P : Program) (w : World) (K : Frg) (mg : Str → Option Value) (k : Nat) (x : Str) (ps : List Str) (Pn : List Nat) (f : MFn) : Prop where
  ex : ∃ fd, (∀ base : Heap, FnOk P w K mg base CX0 k (He.ga K x) fd ps (spM K ps.length Pn f)) ∧ Binds K fd ps []
  kp : PySem.W.keepIn K (.ref (He.ga K x)) = true
  g : mg x = some (.ref (He.ga K x))
theorem mkM {P : Program} {w : World} {K : Frg} {mg : Str → Option Value} {x : Str} {params : Arguments} {body : List Stmt} {scope : Scope} {N ps : List Str} {k : Nat} {g : VS} {Pn : List Nat} (F : ∃ fd, FunD K x x params body scope [] [] (He.ga K x) fd) (hg : mg x = some (.ref (He.ga K x))) (S : FnScope N ps scope)
    (hP : ∀ p ∈ Pn, p < ps.length) (hb : ∀ (kV doc pm : Value) (an : Option Addr) (cdv ct : Value) (us : List Value), us.length = ps.length → bindArgs (PySem.W.fnOf x x params body scope .none kV doc pm an cdv ct) ⟨us, []⟩ = pure (ps.zip us))
    (hbody : ∀ (base : Heap) (cdv : Value) (A : Around) (outer : List Env) (s : Shared) (H : Hp) (E : XK), Room k (A.deeper (envOfC x scope s.heap.objs.size (He.ga K x) cdv)) → SVs (cxOf CX0 P w K mg base N x scope (He.ga K x) cdv A outer s H E).nox W0 Pn body g) :
    OkM P w K mg (k + 1) x ps Pn (fnM N.length Pn g) := by
  obtain ⟨fd, F⟩ := F
  exact ⟨⟨fd, fun base => defM_ok hP F S (hbody base), F.bindsN hb⟩, F.kp, hg⟩
theorem OkM.mono {P : Program} {w : World} {K : Frg} {mg : Str → Option Value} {j k : Nat} {x : Str} {ps : List Str} {Pn : List Nat} {f : MFn} (O : OkM P w K mg j x ps Pn f) (h : j ≤ k) : OkM P w K mg k x ps Pn f := by
  obtain ⟨fd, G, b⟩ := O.ex
  exact ⟨⟨fd, fun base => (G base).mono h, b⟩, O.kp, O.g⟩
theorem VOut.bndO {α β : Type} {K : Frg} {W : WW} {τ : L2.St} {F H : Hp} {A : List Addr} {r : RX α} {f : α → Om → RX β} {k : β → Hp → List Addr → Hp → Om → Prop} (h : VOut K W τ F A H (VL.bnd r f) k) :
    VOut K W τ F A H r fun a F' A' H' ω' => ∀ B : List Addr, (∀ b ∈ B, b ∈ A ∨ H b = none) → VOut K W τ F' (B ++ A') H' (f a ω') k := by
  cases r with
  | ok a => obtain ⟨a, ω⟩ := a; exact fun F' A' H' s r B hB => VOut.step h (s.wide hB)
  | ex x => exact h
  | no => exact h
/-! ### arguments: data, a slot's object, a new object -/
inductive Ar where
  | d (d : D) | s (i : Nat) | o (o : O)
inductive ArsOk (K : Frg) (F H : Hp) (τ : L2.St) : List V → List Ar → List Addr → Prop
  | nil : ArsOk K F H τ [] [] []
  | d {v : V} {d : D} {vs : List V} {as : List Ar} {B : List Addr} : Rep K F v d → ArsOk K F H τ vs as B → ArsOk K F H τ (v :: vs) (.d d :: as) B
  | s {v : V} {i : Nat} {vs : List V} {as : List Ar} {B : List Addr} : τ[i]? = some (some v) → ArsOk K F H τ vs as B → ArsOk K F H τ (v :: vs) (.s i :: as) B
  | o {v : V} {o : O} {vs : List V} {as : List Ar} {B C : List Addr} : Own K F H v o C → ArsOk K F H τ vs as B → ArsOk K F H τ (v :: vs) (.o o :: as) (C ++ B)
abbrev ErF := Om → RX (List Ar)
def tEr (K : Frg) (W : WW) (f : ErF) : TA := fun τ H Q => ∃ F A ω, VRel K F H A ω τ ∧ VOut K W τ F A H (f ω) fun as F' A' H' ω' => ∀ vs B, ArsOk K F' H' τ vs as B → (B ++ A').Nodup → (∀ b ∈ B, b ∈ A ∨ H b = none) → Q vs H'
def Xr (X : Cx) (W : WW) (es : List Expr) (f : ErF) : Prop := PA X es (tEr X.K W f)
def erNil : ErF := fun ω => .ok ([], ω)
def erD (f : EV) (g : ErF) : ErF := fun ω => bnd (f ω) fun d ω => bnd (g ω) fun as ω => .ok (.d d :: as, ω)
def erS (i : Nat) (g : ErF) : ErF := fun ω => match ω[i]? with
  | some (some _) => bnd (g ω) fun as ω => .ok (.s i :: as, ω)
  | _ => .no
def erO (f : EO) (g : ErF) : ErF := fun ω => bnd (f ω) fun o ω => bnd (g ω) fun as ω => .ok (.o o :: as, ω)
section
variable {X : Cx} {W : WW} {e : Expr} {es : List Expr} {g : ErF}
theorem er_nil : Xr X W [] erNil := PA.imp pa_nil fun τ H Q ⟨F, A, ω, r, k⟩ => k F A H .refl r [] [] .nil (by simpa using r.nd) fun b h => by simp at h
theorem er_d {f : EV} (ha : XV X W e f) (hr : Xr X W es g) (hs : starEach (e :: es) X.env = (false, eval e X.env) :: starEach es X.env := by rfl) : Xr X W (e :: es) (erD f g) := by
  refine PA.imp (pa_cons ha hr hs) fun τ H Q ⟨F, A, ω, r, k⟩ => ⟨F, A, ω, r, (VOut.bnd k).imp fun d F1 A1 H1 ω1 s1 r1 k1 v rv => ⟨F1, A1, ω1, r1, (VOut.bnd k1).imp fun as F2 A2 H2 ω2 s2 r2 k2 vs B ok nd hB => ?_⟩⟩
  refine k2 _ _ _ .refl r2 (v :: vs) B (.d (rv.mono s2.fsub) ok) nd fun b hb => ?_
  rcases hB b hb with z | z
  · exact s1.anew b z
  · exact .inr (s1.alive b z)
theorem er_s (i : Nat) {x : Str} {pos : Pos} (hr : Xr X W es g) (hN : X.N[i]? = some x := by rfl) (hv : Vis X.env.scope x := by first | exact Or.inl rfl | exact Or.inr (Or.inl rfl) | exact Or.inr (Or.inr rfl)) (hd : (x == ("__debug__" : Str)) = false := by decide)
    (hcd : (x == ("__classdict__" : Str)) = false := by decide) (hs : starEach (.Name x pos :: es) X.env = (false, eval (.Name x pos) X.env) :: starEach es X.env := by rfl) : Xr X W (.Name x pos :: es) (erS i g) := by
  refine PA.imp (pa_cons (pe_var hN hv hd hcd) hr hs) fun τ H Q ⟨F, A, ω, r, k⟩ => ?_
  unfold erS at k
  split at k
  case h_2 => exact k.elim
  rename_i o ho
  obtain ⟨v, B0, hv0, _, _⟩ := r.sl.get ho
  exact ⟨v, hv0, F, A, ω, r, (VOut.bnd k).imp fun as F2 A2 H2 ω2 s2 r2 k2 vs B ok nd hB => k2 _ _ _ .refl r2 (v :: vs) B (.s hv0 ok) nd hB⟩
theorem er_o {f : EO} (ha : XO X W e f) (hr : Xr X W es g) (hs : starEach (e :: es) X.env = (false, eval e X.env) :: starEach es X.env := by rfl) : Xr X W (e :: es) (erO f g) := by
  refine PA.imp (pa_cons ha hr hs) fun τ H Q ⟨F, A, ω, r, k⟩ => ⟨F, A, ω, r, (VOut.bnd k).imp fun o F1 A1 H1 ω1 s1 r1 k1 v C ow nc hC => ⟨F1, A1, ω1, r1, (VOut.bnd k1).imp fun as F2 A2 H2 ω2 s2 r2 k2 vs B ok nd hB => ?_⟩⟩
  have CA := nodup_apart nc
  have CA2 := s2.apart CA ow.there
  have CB : ∀ b ∈ C, b ∉ B := fun b hc hb => by
    rcases hB b hb with z | z
    · exact CA b hc z
    · obtain ⟨u, hu⟩ := ow.there b hc
      rw [hu] at z; cases z
  refine k2 _ _ _ .refl r2 (v :: vs) (C ++ B) (.o (ow.frame CA s2) ok) ?_ fun b hb => ?_
  · rw [List.append_assoc]
    exact nodup_join (List.nodup_append.mp nc).1 nd fun b hb h => (List.mem_append.mp h).elim (CB b hb) (CA2 b hb)
  · rcases List.mem_append.mp hb with z | z
    · exact hC b z
    · rcases hB b z with y | y
      · exact s1.anew b y
      · exact .inr (s1.alive b y)
def takeA : List Ar → Om → Option (List O × Om)
  | [], ω => some ([], ω)
  | .d d :: as, ω => (takeA as ω).map fun p => (.d d :: p.1, p.2)
  | .o o :: as, ω => (takeA as ω).map fun p => (o :: p.1, p.2)
  | .s i :: as, ω => match ω[i]? with
    | some (some o) => (takeA as (ω.set i none)).map fun p => (o :: p.1, p.2)
    | _ => none
theorem takeA_ok {K : Frg} {F H : Hp} {τ : L2.St} : ∀ {vs : List V} {as : List Ar} {B A : List Addr} {ω ω1 : Om} {os : List O}, ArsOk K F H τ vs as B → VRel K F H A ω τ → (B ++ A).Nodup → takeA as ω = some (os, ω1) →
    ∃ C A1, Owns K F H vs os C ∧ VRel K F H A1 ω1 τ ∧ (C ++ A1).Nodup ∧ ∀ b ∈ C ++ A1, b ∈ B ++ A
  | _, _, _, A, _, _, _, .nil, r, nd, e => by
    unfold takeA at e
    cases e
    exact ⟨[], A, .nil, r, by simpa using r.nd, fun b h => h⟩
  | _, _, B, A, ω, ω1, os, .d rd ok, r, nd, e => by
    unfold takeA at e
    obtain ⟨⟨os', ω'⟩, e1, e2⟩ := Option.map_eq_some_iff.mp e
    cases e2
    obtain ⟨C, A1, h1, h2, h3, h4⟩ := takeA_ok ok r nd e1
    exact ⟨C, A1, .cons (B := []) (.d rd) h1, h2, h3, h4⟩
  | _, _, _, A, ω, ω1, os, .o (B := B) (C := C0) ow ok, r, nd, e => by
    unfold takeA at e
    obtain ⟨⟨os', ω'⟩, e1, e2⟩ := Option.map_eq_some_iff.mp e
    cases e2
    rw [List.append_assoc] at nd
    have n0 := List.nodup_append.mp nd
    obtain ⟨C, A1, h1, h2, h3, h4⟩ := takeA_ok ok r n0.2.1 e1
    refine ⟨C0 ++ C, A1, .cons ow h1, h2, ?_, fun b hb => ?_⟩
    · rw [List.append_assoc]
      exact nodup_join n0.1 h3 fun b hb h => n0.2.2 b hb b (h4 b h) rfl
    · rw [List.append_assoc] at hb ⊢
      rcases List.mem_append.mp hb with z | z
      · exact List.mem_append_left _ z
      · exact List.mem_append_right _ (h4 b z)
  | _, _, B, A, ω, ω1, os, .s (i := i) (v := v) hv ok, r, nd, e => by
    unfold takeA at e
    split at e
    case h_2 => cases e
    rename_i o ho
    obtain ⟨⟨os', ω'⟩, e1, e2⟩ := Option.map_eq_some_iff.mp e
    cases e2
    obtain ⟨v', B0, A', hv', ow, r', nd', hm⟩ := r.take ho
    have ev : v = v' := by rw [hv] at hv'; cases hv'; rfl
    subst ev
    have n0 := List.nodup_append.mp nd
    have n1 := List.nodup_append.mp nd'
    obtain ⟨C, A1, h1, h2, h3, h4⟩ := takeA_ok ok r' (nodup_join n0.1 n1.2.1 fun b hb h => n0.2.2 b hb b (hm b (List.mem_append_right _ h)) rfl) e1
    refine ⟨B0 ++ C, A1, .cons ow h1, h2, ?_, fun b hb => ?_⟩
    · rw [List.append_assoc]
      refine nodup_join n1.1 h3 fun b hb h => ?_
      rcases List.mem_append.mp (h4 b h) with z | z
      · exact n0.2.2 b z b (hm b (List.mem_append_left _ hb)) rfl
      · exact n1.2.2 b hb b z rfl
    · rw [List.append_assoc] at hb
      rcases List.mem_append.mp hb with z | z
      · exact List.mem_append_right _ (hm b (List.mem_append_left _ z))
      · rcases List.mem_append.mp (h4 b z) with y | y
        · exact List.mem_append_left _ y
        · exact List.mem_append_right _ (hm b (List.mem_append_right _ y))
def putA (as : List Ar) : List Nat → List O → Om → Om
  | p :: P, o :: os, ω => match as[p]? with
    | some (.s i) => putA as P os (ω.set i (some o))
    | _ => putA as P os ω
  | _, _, ω => ω
theorem ArsOk.get {K : Frg} {F H : Hp} {τ : L2.St} : ∀ {vs : List V} {as : List Ar} {B : List Addr} {p i : Nat} {u : V}, ArsOk K F H τ vs as B → as[p]? = some (.s i) → vs[p]? = some u → τ[i]? = some (some u)
  | _, _, _, p, _, _, .nil, e, _ => by simp at e
  | _, _, _, 0, _, _, .d _ _, e, _ => by cases e
  | _, _, _, 0, _, _, .o _ _, e, _ => by cases e
  | _, _, _, 0, _, _, .s h _, e, f => by cases e; cases f; exact h
  | _, _, _, p + 1, _, _, .d _ r, e, f => ArsOk.get (p := p) r (by simpa using e) (by simpa using f)
  | _, _, _, p + 1, _, _, .o _ r, e, f => ArsOk.get (p := p) r (by simpa using e) (by simpa using f)
  | _, _, _, p + 1, _, _, .s _ r, e, f => ArsOk.get (p := p) r (by simpa using e) (by simpa using f)
theorem putA_ok {K : Frg} {F H : Hp} {τ : L2.St} {vs : List V} {as : List Ar} (hget : ∀ (p i : Nat) (u : V), as[p]? = some (Ar.s i) → vs[p]? = some u → τ[i]? = some (some u)) :
    ∀ {P : List Nat} {us : List V} {ps : List O} {C A : List Addr} {ω : Om}, Paired (fun p u => vs[p]? = some u) P us → Owns K F H us ps C → VRel K F H A ω τ → (C ++ A).Nodup → ∃ A', VRel K F H A' (putA as P ps ω) τ ∧ ∀ b ∈ A', b ∈ C ++ A
  | [], [], [], _, A, ω, .nil, .nil, r, nd => ⟨A, by unfold putA; exact r, fun b h => List.mem_append_right _ h⟩
  | p :: P, _, _, _, A, ω, .cons hp hr, .cons (B := C0) (C := C) ow ows, r, nd => by
    rw [List.append_assoc] at nd
    have n0 := List.nodup_append.mp nd
    unfold putA
    split
    · rename_i i hi
      have hv := hget p i _ hi hp
      have n1 := List.nodup_append.mp n0.2.1
      obtain ⟨A1, r1, h1⟩ := r.set ow (nodup_join n0.1 n1.2.1 fun b hb h => n0.2.2 b hb b (List.mem_append_right _ h) rfl) i
      have et : ∀ u, τ[i]? = some (some u) → τ.set i (some u) = τ := fun u hu => by
        obtain ⟨hk, ek⟩ := List.getElem?_eq_some_iff.mp hu
        rw [← ek, List.set_getElem_self]
      rw [et _ hv] at r1
      obtain ⟨A2, r2, h2⟩ := putA_ok hget hr ows r1 (nodup_join n1.1 r1.nd fun b hb h => by
        rcases List.mem_append.mp (h1 b h) with z | z
        · exact n0.2.2 b z b (List.mem_append_left _ hb) rfl
        · exact n1.2.2 b hb b z rfl)
      refine ⟨A2, r2, fun b hb => ?_⟩
      rw [List.append_assoc]
      rcases List.mem_append.mp (h2 b hb) with z | z
      · exact List.mem_append_right _ (List.mem_append_left _ z)
      · rcases List.mem_append.mp (h1 b z) with y | y
        · exact List.mem_append_left _ y
        · exact List.mem_append_right _ (List.mem_append_right _ y)
    · obtain ⟨A2, r2, h2⟩ := putA_ok hget hr ows r n0.2.1
      exact ⟨A2, r2, fun b hb => by rw [List.append_assoc]; exact List.mem_append_right _ (h2 b hb)⟩
def eCallM (f : MFn) (n : Nat) (P : List Nat) (fs : ErF) : EO := fun ω => bnd (fs ω) fun as ω => match takeA as ω with
  | some (os, ω1) => if os.length = n then (match f os with
    | .ok (o, ps) => .ok (o, putA as P ps ω1)
    | _ => .no) else .no
  | none => .no
theorem eo_callM {k : Nat} {x : Str} {ps : List Str} {P : List Nat} {f : MFn} {p pos : Pos} {fs : ErF} {n : Nat} (O : OkM X.prog X.w X.K X.mg k x ps P f) (hr : Room k X.A) (ha : Xr X W (e :: es) fs) (hn : ps.length = n := by rfl) (hg : Gl X x := by rfl) (hdb : (x == ("__debug__" : Str)) = false := by decide)
    (hs : starEach (e :: es) X.env = (false, eval e X.env) :: starEach es X.env := by rfl) (hpl : (backTo pos (starEach es X.env)).any (·.1) = false := by rfl) : XO X W (.Call (.Name x p) (e :: es) [] pos) (eCallM f n P fs) := by
  subst hn
  obtain ⟨fd, G, b⟩ := O.ex
  refine FL.PE.imp (pe_call (E := E0) (G _) hr hg O.g O.kp b .nil pass0 ha hdb hs hpl) fun τ H Q ⟨F, A, ω, r, k⟩ => ⟨F, A, ω, r, (VOut.bndO k).imp fun as F1 A1 H1 ω1 s1 r1 k1 vs B ok nd hB => ?_⟩
  have k1 := k1 B hB
  show spM X.K ps.length P f (vs ++ []) H1 Q E0
  rw [List.append_nil]
  split at k1
  case h_2 => exact k1.elim
  rename_i os ω2 ht
  split at k1
  case isFalse => exact k1.elim
  rename_i hl
  obtain ⟨C, A2, h1, h2, h3, h4⟩ := takeA_ok ok r1 nd ht
  have n3 := List.nodup_append.mp h3
  refine ⟨F1, C, os, r1.sub, h1, n3.1, hl, ?_⟩
  cases q : f os with
  | ex y => rw [q] at k1; exact k1.elim
  | no => rw [q] at k1; exact k1.elim
  | ok pr =>
    obtain ⟨o, pp⟩ := pr
    rw [q] at k1
    intro F' A' B' H' v us s2 sub2 pu ows ow nd2
    -- the slots that stayed
    have CA : ∀ b ∈ A2, b ∉ C := fun b ha hc => n3.2.2 b hc b ha rfl
    have r2 : VRel X.K F' H' A2 ω2 τ := by
      refine ⟨sub2, h2.sl.move s2.fsub fun b hb => ?_, h2.nd⟩
      obtain ⟨u, hu⟩ := h2.there hb
      refine ⟨?_, by rw [hu]; exact s2.keep b u hu (CA b hb)⟩
      cases q : F' b with
      | none => rfl
      | some w =>
        rcases s2.fnew b w q with z | z | z
        · rw [h2.fnone hb] at z; cases z
        · exact absurd z (CA b hb)
        · rw [hu] at z; cases z
    have apart := s2.apart CA fun b hb => h2.there hb
    have n2 := List.nodup_append.mp nd2
    obtain ⟨A3, r3, h5⟩ := putA_ok (fun p i u e f => ok.get e f) pu ows r2 (nodup_join n2.2.1 h2.nd fun b hb h => apart b h (List.mem_append_right _ hb))
    have st : VStep F1 (B ++ A1) H1 F' (B' ++ A3) H' := by
      refine ⟨s2.fsub, fun b o h => ?_, fun b hb => ?_, fun b o h hn => s2.keep b o h fun hc => hn (h4 b (List.mem_append_left _ hc)), s2.alive⟩
      · rcases s2.fnew b o h with z | z | z
        · exact .inl z
        · exact .inr (.inl (h4 b (List.mem_append_left _ z)))
        · exact .inr (.inr z)
      · rcases List.mem_append.mp hb with z | z
        · rcases s2.anew b (List.mem_append_left _ z) with y | y
          · exact .inl (h4 b (List.mem_append_left _ y))
          · exact .inr y
        · rcases List.mem_append.mp (h5 b z) with y | y
          · rcases s2.anew b (List.mem_append_right _ y) with w | w
            · exact .inl (h4 b (List.mem_append_left _ w))
            · exact .inr w
          · exact .inl (h4 b (List.mem_append_right _ y))
    refine k1 F' A3 H' (st.less fun b hb => List.mem_append_right _ hb) r3 v B' ow (nodup_join n2.1 r3.nd fun b hb h => ?_) fun b hb => ?_
    · rcases List.mem_append.mp (h5 b h) with z | z
      · exact n2.2.2 b hb b z rfl
      · exact apart b z (List.mem_append_left _ hb)
    · rcases st.anew b (List.mem_append_left _ hb) with z | z
      · rcases List.mem_append.mp z with y | y
        · exact hB b y
        · exact s1.anew b y
      · exact .inr (s1.alive b z)
end
end VL
/-! VL: slices, in, the law's end. -/
namespace VL
open PySem PySem.Spec PyProof.Rows L2 FL
section
variable {X : Cx} {W : WW}
abbrev PNF := Sg → R Exn (Option Int)
def noPart : PNF := fun _ => .ok none
def partI (f : PEF) : PNF := fun σ => (f σ).bind fun d => match d with
  | .int i => .ok (some i)
  | _ => .no
def tPN (K : Frg) (W : WW) (f : PNF) : TO := fun τ H Q => ∃ F σ, Sub F H ∧ SlD K F σ τ ∧ Out K W τ F H (f σ) fun i F' H' => Q i H'
def PN (X : Cx) (W : WW) (e : Option Expr) (f : PNF) : Prop := L2.PO X e (tPN X.K W f)
theorem pn_none : PN X W none noPart := FL.PO.imp po_none fun τ H Q ⟨F, σ, s, so, k⟩ => k F H (.refl s)
theorem pn_some {e : Expr} {f : PEF} (h : PD X W e f) : PN X W (some e) (partI f) := by
  refine FL.PO.imp (po_some h) fun τ H Q ⟨F, σ, s, so, k⟩ => ⟨F, σ, s, so, (Out.bind k).imp fun d F1 H1 s1 k1 v rv => ?_⟩
  split at k1
  · rename_i i
    cases rv
    exact ⟨i, rfl, k1 F1 H1 (.refl s1.sub)⟩
  · exact k1.elim
def cSl (fe : PEF) (lo hi : PNF) : POF := fun σ => (fe σ).bind fun d => (lo σ).bind fun a => (hi σ).bind fun b => match seqD d with
  | some (false, ds) => .ok (.l ((cutG ds a b).map .d))
  | some (true, ds) => if HT.sIx ds.length 0 a = 0 ∧ HT.sIx ds.length ds.length b = ds.length then .no else .ok (.d (.tup (cutG ds a b)))
  | none => .no
theorem Reps.paired {K : Frg} {F : Hp} : ∀ {vs : List V} {ds : List D}, Reps K F vs ds → Paired (Rep K F) vs ds
  | _, _, .nil => .nil
  | _, _, .cons q r => .cons q (Reps.paired r)
theorem Reps.of_paired {K : Frg} {F : Hp} : ∀ {vs : List V} {ds : List D}, Paired (Rep K F) vs ds → Reps K F vs ds
  | [], [], .nil => .nil
  | _ :: _, _ :: _, .cons q r => .cons q (Reps.of_paired r)
theorem o_sl {e : Expr} {lo hi : Option Expr} {fe : PEF} {fl fh : PNF} {p2 pos : Pos} (he : PD X W e fe) (hl : PN X W lo fl) (hu : PN X W hi fh) : PO X W (.Subscript e (.Slice lo hi none p2) pos) (cSl fe fl fh) := by
  refine FL.PE.imp (pe_slice (FL.SlR.or sl_list sl_tup) he hl hu) fun τ H Q ⟨F, σ, s, so, k⟩ => ?_
  refine ⟨F, σ, s, so, (Out.bind k).imp fun d F1 H1 s1 k1 v rv => ⟨F1, σ, s1.sub, so.mono s1.fsub, (Out.bind k1).imp fun a F2 H2 s2 k2 => ⟨F2, σ, s2.sub, so.mono (s1.trans s2).fsub, (Out.bind k2).imp fun b F3 H3 s3 k3 => ?_⟩⟩⟩
  have rv3 := rv.mono (s2.trans s3).fsub
  have up := ((s1.trans s2).trans s3)
  split at k3
  · rename_i ds hs
    obtain ⟨c, vs, rfl, _, q2, rr⟩ := seqD_ok s3.sub rv3 hs
    refine .inl ⟨c, vs, rfl, q2 rfl, fun p hp => ?_⟩
    have s4 := PStep.new (o := .lst (cutV vs a b)) s3.sub hp
    exact k3 F3 _ s4 _ [p] (.l upd_same (none_up s3.sub hp) (Reps.owns (VL.Reps.of_paired (Paired.cut (VL.Reps.paired rr) a b)))) ⟨by simp, fun b hb => by rw [List.mem_singleton.mp hb]; exact up.gone hp⟩
  · rename_i ds hs
    split at k3
    · exact k3.elim
    · rename_i hb
      obtain ⟨c, vs, rfl, q1, _, rr⟩ := seqD_ok s3.sub rv3 hs
      refine .inr ⟨c, vs, rfl, q1 rfl, by rw [rr.length]; exact hb, fun p hp => ?_⟩
      have s4 := PStep.newF (o := .tup (cutV vs a b)) s3.sub hp
      exact k3 _ _ s4 _ [] (.d (.tup (.of upd_same) ((VL.Reps.of_paired (Paired.cut (VL.Reps.paired rr) a b)).mono s4.fsub))) ⟨List.nodup_nil, fun b h => by simp at h⟩
  · exact k3.elim
/-! ### in -/
def gInG (neg : Bool) : G2 := fun x y => match pyD x, pyD y with
  | some p, some (.list qs) => if SeqAt.shaped p = true ∧ SeqAt.shaped (.list qs) = true then some (.d (.bl (if neg then !(qs.any fun z => PyData.eqv z p) else qs.any fun z => PyData.eqv z p))) else none
  | _, _ => none
abbrev gIn : G2 := gInG false
abbrev gNotIn : G2 := gInG true
theorem v_in (hu : X.A.units + 65 < cLine) : VOp X (compareOp .In) gIn := by
  refine OpR.imp (op_inD hu) fun x y H Q ⟨F, dx, dy, o, s, rx, ry, e, k⟩ => ?_
  unfold gIn gInG at e
  split at e
  case h_2 => cases e
  rename_i p qs hp hq
  split at e
  case isFalse => cases e
  rename_i hz
  cases e
  exact ⟨p, qs, pyD_ok s rx hp, pyD_ok s ry hq, hz.1, hz.2, k F H _ [] (.refl s) (.d (.bl _)) ⟨List.nodup_nil, fun b h => by simp at h⟩⟩
theorem v_notin (hu : X.A.units + 65 < cLine) : VOp X (compareOp .NotIn) gNotIn := by
  refine OpR.imp (op_notInD hu) fun x y H Q ⟨F, dx, dy, o, s, rx, ry, e, k⟩ => ?_
  unfold gNotIn gInG at e
  split at e
  case h_2 => cases e
  rename_i p qs hp hq
  split at e
  case isFalse => cases e
  rename_i hz
  cases e
  exact ⟨p, qs, pyD_ok s rx hp, pyD_ok s ry hq, hz.1, hz.2, k F H _ [] (.refl s) (.d (.bl _)) ⟨List.nodup_nil, fun b h => by simp at h⟩⟩
/-! ### truth -/
def trD : D → Option Bool
  | .bl b => some b
  | .non => some false
  | .int i => some (i != 0)
  | .tup ds => some (!ds.isEmpty)
  | .lst ds => some (!ds.isEmpty)
  | _ => none
def cTr (f : PEF) : PBF := fun σ => (f σ).bind fun d => R.of (trD d)
theorem Reps.isEmpty {K : Frg} {F : Hp} {vs : List V} {ds : List D} (r : Reps K F vs ds) : vs.isEmpty = ds.isEmpty := by cases r <;> rfl
theorem trD_ok {K : Frg} {F H : Hp} {v : V} {d : D} {k : Bool} (s : Sub F H) (r : Rep K F v d) (e : trD d = some k) : TruV K v H k := by
  unfold trD at e
  split at e
  · cases e; cases r; exact rfl
  · cases e; cases r; exact rfl
  · cases e; cases r; exact rfl
  · cases e
    cases r with
    | tup q rs => exact .inr (.inl ⟨_, SqT.sub s q, by rw [VL.Reps.isEmpty rs]⟩)
  · cases e
    cases r with
    | lst q rs => exact .inl ⟨_, .of (s _ _ q), by rw [VL.Reps.isEmpty rs]⟩
  · cases e
theorem b_tr {e : Expr} {f : PEF} (h : PD X W e f) (he : ∀ whole, isTrue e X.env whole = (do let v ← whole; standAt e.pos; holding [v] (truthy v)) := by intro _; rfl) : PB X W e (cTr f) := by
  refine FL.PT.imp (pt_truth h he) fun τ H Q ⟨F, σ, s, so, k⟩ => ⟨F, σ, s, so, (Out.bind k).imp fun d F1 H1 s1 k1 v rv => ?_⟩
  obtain ⟨b, e, k2⟩ := Out.of k1
  exact ⟨b, trD_ok s1.sub rv e, k2 F1 H1 (.refl s1.sub)⟩
end
/-! ### the law's end -/
theorem law_sp {K : Frg} {f : PFn} {n : Nat} (hm : ∀ ns : List Int, ns.length ≤ n → f [.scr ns] = .ok (.d (.bl true))) (H : Hp) (a : Addr) (ns : List Int) (hl : ns.length ≤ n) (hS : SqL K H a (ns.map V.int)) :
    spP K 1 f [.ref a] H (fun v _ => v = .bl true) fun _ _ _ => False := by
  refine ⟨H, [.scr ns], fun _ _ h => h, .cons (.scr hS) .nil, rfl, ?_⟩
  rw [hm ns hl]
  intro F' H' v B s ow fr
  cases ow with
  | d r => cases r; rfl
end VL
/-! VL: some more rules. -/
namespace VL
open PySem PySem.Spec PyProof.Rows L2 FL
def oD (f : PEF) : POF := fun σ => (f σ).map O.d
def dO (f : POF) : PEF := fun σ => (f σ).map frz
section
variable {X : Cx} {W : WW} {tg : Expr} {p pos : Pos}
def eNotV (f : EV) : EV := fun ω => bnd (f ω) fun d ω => match asB d with
  | some b => .ok (.bl (!b), ω)
  | none => .no
/-- an item of a name's own list, by an index that may change things -/
def eIxV (i : Nat) (f : EV) : EV := fun ω => if (ω[i]?).join.isSome = true then bnd (f ω) fun d ω => match d, ω[i]? with
  | .int j, some (some (.l os)) => (match atI os j with
    | some (.d d) => .ok (d, ω)
    | _ => .no)
  | .int j, some (some (.d x)) => (match seqD x with
    | some q => (match atI q.2 j with
      | some d => .ok (d, ω)
      | none => .no)
    | none => .no)
  | _, _ => .no
  else .no
/-! ### reversed(range(..)) -/
def iRev1 (f : PEF) : PIF := fun σ => (f σ).bind fun d => R.of (kRev1 [d])
def iRev2 (f g : PEF) : PIF := fun σ => (f σ).bind fun d => (g σ).bind fun e => R.of (kRev2 [d, e])
def iRevX1 (f : EV) : XIF := fun ω => bnd (f ω) fun d ω => match kRev1 [d] with
  | some items => .ok (items, ω)
  | none => .no
def iRevX2 (f g : EV) : XIF := fun ω => bnd (f ω) fun d ω => bnd (g ω) fun e ω => match kRev2 [d, e] with
  | some items => .ok (items, ω)
  | none => .no
section
variable {a b : Expr} {p2 pos2 : Pos}
end
end
end VL
namespace VL
open PySem PySem.Spec PyProof.Rows L2 FL
theorem room_in {k : Nat} {A : Around} (r : Room k A) : A.units + 65 < cLine := by have := r.un; omega
section
variable {X : Cx} {W : WW} {P : List Nat} {e o : Expr} {pos : Pos}
/-! ### xs.extend(e), pl.append(e) -/
def lstD : D → Option (List D)
  | .lst ds => some ds
  | _ => none
def cExt (i : Nat) (f : EV) : VS := fun ω => match ω[i]? with
  | some (some (.l _)) => bnd (f ω) fun d ω => match lstD d, ω[i]? with
    | some ds, some (some (.l os)) => if os.length + ds.length ≤ sizeLine then .ok (.nx, ω.set i (some (.l (os ++ ds.map .d)))) else .no
    | _, _ => .no
  | _ => .no
def cAppP (pl : PlF) (f : PEF) : VS := fun ω => match pl ω, f (viewA ω) with
  | some q, .ok d => (match subO ω q with
    | some (.l os) => if os.length < sizeLine ∧ flat d = true then .ok (.nx, putO ω q (.l (os ++ [.d d]))) else .no
    | _ => .no)
  | _, _ => .no
theorem s_appP {pl : PlF} {f : PEF} {apos cpos : Pos} (ho : LPl X o pl) (he : PD X W0 e f)
    (hbase : attributeBase o "append" X.env (eval o X.env) = eval o X.env := by rfl)
    (hfew : ((backTo cpos (starEach [e] X.env)).all (fun x => !x.1) && (backToKw cpos (keywordEach [] X.env)).all (fun x => x.1.isSome)
      && decide ([e].length + ([] : List Keyword).length + (if ([] : List Keyword).isEmpty then 0 else 1) < 30)) = true := by rfl)
    (hline : (apos.endLine == cpos.line) = true := by rfl) (hs : starEach [e] X.env = (false, eval e X.env) :: starEach [] X.env := by rfl) (hplain : (backTo cpos (starEach [] X.env)).any (·.1) = false := by rfl)
    (hsw : swapsWith (.Call (.Attribute o "append" apos) [e] [] cpos) none pos.line X.env = pure false := by rfl) :
    SV X W P (.Expr (.Call (.Attribute o "append" apos) [e] [] cpos) pos) (cAppP pl f) := by
  refine FL.PS.imp (ps_expr (pe_bm PySem.F.plainAttrs_list PySem.F.slot_list_append PySem.F.type_list_append (show MtR X "list.append" rAppend from mt_append) ho (a_cons he a_nil hs) hbase hfew hline hs hplain) hsw) fun D τ H ⟨F, A, ω, r, k⟩ => ?_
  unfold cAppP at k
  split at k
  case h_2 => exact k.elim
  rename_i q d hq hd
  split at k
  case h_2 => exact k.elim
  rename_i os hso
  split at k
  case isFalse => exact k.elim
  rename_i hz
  refine ⟨F, A, ω, q, r, hq, fun F2 H2 v s2 r2 hs2 at2 => ?_⟩
  obtain ⟨Bq, owq, _⟩ := r2.subO at2 hso
  refine ⟨tyV_l owq, over F2 H2 A, viewA ω, r2.still.1, r2.still.2, ?_⟩
  unfold aCons aNil
  rw [hd]
  intro G H3 s3 vs rs
  obtain ⟨y, rfl, ry⟩ := reps1 rs
  obtain ⟨s4, r4, low⟩ := r2.awake s3
  obtain ⟨v0, hv0, sv⟩ := at2
  obtain ⟨a, xs, C, e1, g1, g2, owl, ndCB, aCB, _, plug⟩ := r4.rewrite (q := q) (B := []) ⟨v0, hv0, sv.mono s3.hsub⟩ hso (fun b hb => by simp at hb) (by simpa using r4.nd)
  subst e1
  refine ⟨a, xs, y, rfl, rfl, g1, by rw [owl.length]; exact hz.1, ?_⟩
  have m := owl.append (.cons (B := []) (.d (Rep.low low ry hz.2)) .nil)
  obtain ⟨A', s5, r5, _⟩ := plug _ _ _ m (by simpa using ndCB) fun b hb => by simpa using hb
  rw [List.nil_append] at s5
  exact k _ A' _ τ ((s2.trans s4).trans s5) r5 (.refl _ _)
end
end VL
/-! VL: reckoning with the mirrors by simp. -/
namespace VL
open PySem PySem.Spec PyProof.Rows L2 FL
theorem size_big : (100000 : Nat) ≤ sizeLine := by rw [sizeLine_eq]; decide
theorem le_size {n : Nat} (h : n ≤ 100000) : n ≤ sizeLine := Nat.le_trans h size_big
theorem lt_size {n : Nat} (h : n < 100000) : n < sizeLine := Nat.lt_of_lt_of_le h size_big
/-! ### pure -/
section
variable {σ : Sg} {f g h : PEF} {d e u : D} {ds : List D} {b c : Bool} {i : Nat}
def vR : Option (Option D) → R Exn D
  | some (some d) => .ok d
  | _ => .no
@[simp] theorem cV_ap : cV i σ = vR (σ[i]?) := by unfold cV vR; rfl
@[simp] theorem vR_s : vR (some (some d)) = .ok d := (rfl)
@[simp] theorem cK_ap : cK d σ = .ok d := (rfl)
def binR (g : G2) (x y : R Exn D) : R Exn D := x.bind fun x => y.bind fun y => fo (g x y)
@[simp] theorem cBin_ap {op : G2} : cBin op f g σ = binR op (f σ) (g σ) := (rfl)
@[simp] theorem binR_s {op : G2} : binR op (.ok d) (.ok e) = fo (op d e) := (rfl)
@[simp] theorem fo_d : fo (some (.d d)) = .ok d := by unfold fo; simp only [Option.map_some, frz_d]; rfl
@[simp] theorem fo_l : fo (some (.l (ds.map O.d))) = .ok (.lst ds) := by unfold fo; simp only [Option.map_some, frz_ld]; rfl
def binO (g : G2) (x y : R Exn D) : R Exn O := x.bind fun x => y.bind fun y => R.of (g x y)
@[simp] theorem cBinO_ap {op : G2} : cBinO op f g σ = binO op (f σ) (g σ) := (rfl)
@[simp] theorem binO_s {op : G2} : binO op (.ok d) (.ok e) = R.of (op d e) := (rfl)
@[simp] theorem of_s {ε α : Type} {a : α} : (R.of (some a) : R ε α) = .ok a := (rfl)
@[simp] theorem rmap_ok {ε α β : Type} {a : α} {f : α → β} : (R.ok a : R ε α).map f = .ok (f a) := (rfl)
@[simp] theorem rbind_ok {ε α β : Type} {a : α} {f : α → R ε β} : (R.ok a : R ε α).bind f = f a := (rfl)
def bR (x : R Exn D) : R Exn Bool := x.bind fun d => R.of (asB d)
@[simp] theorem cB_ap : cB f σ = bR (f σ) := (rfl)
@[simp] theorem bR_s : bR (.ok (.bl b)) = .ok b := (rfl)
def trR (x : R Exn D) : R Exn Bool := x.bind fun d => R.of (trD d)
@[simp] theorem cTr_ap : cTr f σ = trR (f σ) := (rfl)
@[simp] theorem trR_b : trR (.ok (.bl b)) = .ok b := (rfl)
@[simp] theorem trR_n : trR (.ok .non) = .ok false := (rfl)
@[simp] theorem trR_i {i : Int} : trR (.ok (.int i)) = .ok (i != 0) := (rfl)
@[simp] theorem trR_l : trR (.ok (.lst ds)) = .ok (!ds.isEmpty) := (rfl)
@[simp] theorem trR_t : trR (.ok (.tup ds)) = .ok (!ds.isEmpty) := (rfl)
def andR (x y : R Exn Bool) : R Exn Bool := x.bind fun b => if b = true then y else .ok false
def orR (x y : R Exn Bool) : R Exn Bool := x.bind fun b => if b = true then .ok true else y
variable {p q : PBF} {x y : R Exn Bool}
@[simp] theorem cAnd_ap : cAnd p q σ = andR (p σ) (q σ) := (rfl)
@[simp] theorem cOr_ap : cOr p q σ = orR (p σ) (q σ) := (rfl)
@[simp] theorem cNot_ap : cNot p σ = (p σ).map fun b => !b := (rfl)
@[simp] theorem andR_ok : andR (.ok b) (.ok c) = .ok (b && c) := by cases b <;> rfl
@[simp] theorem andR_t : andR (.ok true) x = x := (rfl)
@[simp] theorem andR_f : andR (.ok false) x = .ok false := (rfl)
@[simp] theorem orR_ok : orR (.ok b) (.ok c) = .ok (b || c) := by cases b <;> rfl
@[simp] theorem orR_t : orR (.ok true) x = .ok true := (rfl)
@[simp] theorem orR_f : orR (.ok false) x = x := (rfl)
@[simp] theorem cBV_ap : cBV p σ = (p σ).map D.bl := (rfl)
def andV (x y : R Exn D) : R Exn D := (bR x).bind fun b => if b = true then y else .ok (.bl false)
def orV (x y : R Exn D) : R Exn D := (bR x).bind fun b => if b = true then .ok (.bl true) else y
@[simp] theorem cAndV_ap : cAndV f g σ = andV (f σ) (g σ) := (rfl)
@[simp] theorem cOrV_ap : cOrV f g σ = orV (f σ) (g σ) := (rfl)
@[simp] theorem andV_ok : andV (.ok (.bl b)) (.ok (.bl c)) = .ok (.bl (b && c)) := by cases b <;> rfl
@[simp] theorem andV_t {x : R Exn D} : andV (.ok (.bl true)) x = x := (rfl)
@[simp] theorem andV_f {x : R Exn D} : andV (.ok (.bl false)) x = .ok (.bl false) := (rfl)
@[simp] theorem orV_ok : orV (.ok (.bl b)) (.ok (.bl c)) = .ok (.bl (b || c)) := by cases b <;> rfl
@[simp] theorem orV_t {x : R Exn D} : orV (.ok (.bl true)) x = .ok (.bl true) := (rfl)
@[simp] theorem orV_f {x : R Exn D} : orV (.ok (.bl false)) x = x := (rfl)
def ifR {α : Type} (c : R Exn Bool) (x y : R Exn α) : R Exn α := c.bind fun b => if b = true then x else y
@[simp] theorem cIf_ap {α : Type} {f g : Sg → R Exn α} : cIf p f g σ = ifR (p σ) (f σ) (g σ) := (rfl)
@[simp] theorem ifR_ok {α : Type} {x y : R Exn α} : ifR (.ok b) x y = if b = true then x else y := (rfl)
variable {fs : PAF}
@[simp] theorem aNil_ap : aNil σ = .ok [] := (rfl)
def consR {α : Type} (x : R Exn α) (y : R Exn (List α)) : R Exn (List α) := x.bind fun d => y.map fun ds => d :: ds
@[simp] theorem aCons_ap : aCons f fs σ = consR (f σ) (fs σ) := (rfl)
@[simp] theorem consR_ok {α : Type} {a : α} {l : List α} : consR (.ok a) (.ok l) = .ok (a :: l) := (rfl)
def tupR (x : R Exn (List D)) : R Exn D := x.bind fun ds => if ds.length ≤ sizeLine then .ok (.tup ds) else .no
@[simp] theorem cTup_ap : cTup fs σ = tupR (fs σ) := (rfl)
theorem tupR_s (h : ds.length ≤ 100000) : tupR (.ok ds) = .ok (.tup ds) := by show (if _ then _ else _) = _; rw [if_pos (le_size h)]
@[simp] theorem tupR_0 : tupR (.ok []) = .ok (.tup []) := tupR_s (by simp)
@[simp] theorem tupR_1 {a : D} : tupR (.ok [a]) = .ok (.tup [a]) := tupR_s (by simp)
@[simp] theorem tupR_2 {a b : D} : tupR (.ok [a, b]) = .ok (.tup [a, b]) := tupR_s (by simp)
@[simp] theorem tupR_3 {a b c : D} : tupR (.ok [a, b, c]) = .ok (.tup [a, b, c]) := tupR_s (by simp)
@[simp] theorem tupR_4 {a b c d : D} : tupR (.ok [a, b, c, d]) = .ok (.tup [a, b, c, d]) := tupR_s (by simp)
@[simp] theorem tupR_5 {a b c d e : D} : tupR (.ok [a, b, c, d, e]) = .ok (.tup [a, b, c, d, e]) := tupR_s (by simp)
@[simp] theorem tupR_6 {a b c d e f : D} : tupR (.ok [a, b, c, d, e, f]) = .ok (.tup [a, b, c, d, e, f]) := tupR_s (by simp)
@[simp] theorem oD_ap : oD f σ = (f σ).map O.d := (rfl)
@[simp] theorem dO_ap {fq : POF} : dO fq σ = (fq σ).map frz := (rfl)
@[simp] theorem oNil_ap : oNil σ = .ok [] := (rfl)
variable {fo_ : POF} {gs : POAF}
@[simp] theorem oCons_ap : oCons fo_ gs σ = consR (fo_ σ) (gs σ) := (rfl)
def lstR (x : R Exn (List O)) : R Exn O := x.bind fun os => if os.length ≤ sizeLine then .ok (.l os) else .no
@[simp] theorem cLst_ap : cLst gs σ = lstR (gs σ) := (rfl)
theorem lstR_s {os : List O} (h : os.length ≤ 100000) : lstR (.ok os) = .ok (.l os) := by show (if _ then _ else _) = _; rw [if_pos (le_size h)]
@[simp] theorem lstR_0 : lstR (.ok []) = .ok (.l []) := lstR_s (by simp)
@[simp] theorem lstR_1 {a : O} : lstR (.ok [a]) = .ok (.l [a]) := lstR_s (by simp)
@[simp] theorem lstR_2 {a b : O} : lstR (.ok [a, b]) = .ok (.l [a, b]) := lstR_s (by simp)
@[simp] theorem lstR_3 {a b c : O} : lstR (.ok [a, b, c]) = .ok (.l [a, b, c]) := lstR_s (by simp)
@[simp] theorem lstR_4 {a b c d : O} : lstR (.ok [a, b, c, d]) = .ok (.l [a, b, c, d]) := lstR_s (by simp)
@[simp] theorem lstR_8 {a b c d e f g h : O} : lstR (.ok [a, b, c, d, e, f, g, h]) = .ok (.l [a, b, c, d, e, f, g, h]) := lstR_s (by simp)
def cbR (g : GL) (x : R Exn (List D)) : R Exn D := x.bind fun ds => fo (g ds)
def cbO (g : GL) (x : R Exn (List D)) : R Exn O := x.bind fun ds => R.of (g ds)
variable {gl : GL}
@[simp] theorem cCB_ap : cCB gl fs σ = cbR gl (fs σ) := (rfl)
@[simp] theorem cbR_s : cbR gl (.ok ds) = fo (gl ds) := (rfl)
@[simp] theorem cCBO_ap : cCBO gl fs σ = cbO gl (fs σ) := (rfl)
@[simp] theorem cbO_s : cbO gl (.ok ds) = R.of (gl ds) := (rfl)
def okR {ε ε' α : Type} : R ε α → R ε' α
  | .ok o => .ok o
  | _ => .no
@[simp] theorem okR_s {ε ε' α : Type} {a : α} : (okR (R.ok a : R ε α) : R ε' α) = .ok a := (rfl)
def callR (f : PFn) (n : Nat) (x : R Exn (List D)) : R Exn O := x.bind fun ds => if ds.length = n then okR (f ds) else .no
variable {pf : PFn} {n : Nat}
@[simp] theorem cCall_ap : cCall pf n fs σ = callR pf n (fs σ) := by
  unfold cCall callR
  congr 1
  funext ds
  split
  · cases pf ds <;> rfl
  · rfl
@[simp] theorem callR_1 {a : D} : callR pf 1 (.ok [a]) = okR (pf [a]) := (rfl)
@[simp] theorem callR_2 {a b : D} : callR pf 2 (.ok [a, b]) = okR (pf [a, b]) := (rfl)
@[simp] theorem callR_3 {a b c : D} : callR pf 3 (.ok [a, b, c]) = okR (pf [a, b, c]) := (rfl)
@[simp] theorem callR_4 {a b c d : D} : callR pf 4 (.ok [a, b, c, d]) = okR (pf [a, b, c, d]) := (rfl)
@[simp] theorem callR_5 {a b c d e : D} : callR pf 5 (.ok [a, b, c, d, e]) = okR (pf [a, b, c, d, e]) := (rfl)
@[simp] theorem callR_6 {a b c d e f : D} : callR pf 6 (.ok [a, b, c, d, e, f]) = okR (pf [a, b, c, d, e, f]) := (rfl)
@[simp] theorem callR_7 {a b c d e f g : D} : callR pf 7 (.ok [a, b, c, d, e, f, g]) = okR (pf [a, b, c, d, e, f, g]) := (rfl)
def slR (x : R Exn D) (lo hi : R Exn (Option Int)) : R Exn O := x.bind fun d => lo.bind fun a => hi.bind fun b => match seqD d with
  | some (false, ds) => .ok (.l ((cutG ds a b).map .d))
  | some (true, ds) => if HT.sIx ds.length 0 a = 0 ∧ HT.sIx ds.length ds.length b = ds.length then .no else .ok (.d (.tup (cutG ds a b)))
  | none => .no
variable {lo hi : PNF}
@[simp] theorem cSl_ap : cSl f lo hi σ = slR (f σ) (lo σ) (hi σ) := (rfl)
@[simp] theorem slR_l {a b : Option Int} : slR (.ok (.lst ds)) (.ok a) (.ok b) = .ok (.l ((cutG ds a b).map .d)) := (rfl)
@[simp] theorem noPart_ap : noPart σ = .ok none := (rfl)
def partR (x : R Exn D) : R Exn (Option Int) := x.bind fun d => match d with
  | .int i => .ok (some i)
  | _ => .no
@[simp] theorem partI_ap : partI f σ = partR (f σ) := (rfl)
@[simp] theorem partR_s {i : Int} : partR (.ok (.int i)) = .ok (some i) := (rfl)
def negR (x : R Exn D) : R Exn D := x.bind fun d => match d with
  | .int i => .ok (.int (-i))
  | _ => .no
@[simp] theorem cNeg_ap : cNeg f σ = negR (f σ) := (rfl)
@[simp] theorem negR_s {i : Int} : negR (.ok (.int i)) = .ok (.int (-i)) := (rfl)
def chainR (g g' : G2) (x y z : R Exn D) : R Exn D := x.bind fun x => y.bind fun y => (R.of (asG (g x y))).bind fun b => if b = true then z.bind fun z => fo (g' y z) else .ok (.bl false)
@[simp] theorem cChain_ap {op op' : G2} : cChain op op' f g h σ = chainR op op' (f σ) (g σ) (h σ) := (rfl)
@[simp] theorem chainR_s {op op' : G2} : chainR op op' (.ok d) (.ok e) (.ok u) = (R.of (asG (op d e))).bind fun b => if b = true then fo (op' e u) else .ok (.bl false) := (rfl)
@[simp] theorem asG_s : asG (some (.d (.bl b))) = some b := (rfl)
/-! what is walked -/
def iR (k : KI) (x : R Exn (List D)) : R Exn (List ItD) := x.bind fun ds => R.of (k ds)
variable {ki : KI}
@[simp] theorem iP_ap : iP ki fs σ = iR ki (fs σ) := (rfl)
@[simp] theorem iR_s : iR ki (.ok ds) = R.of (ki ds) := (rfl)
@[simp] theorem iS_ap : iS f σ = (f σ).bind fun d => R.of (kSeq [d]) := (rfl)
@[simp] theorem iRev1_ap : iRev1 f σ = (f σ).bind fun d => R.of (kRev1 [d]) := (rfl)
@[simp] theorem iRev2_ap : iRev2 f g σ = (f σ).bind fun d => (g σ).bind fun e => R.of (kRev2 [d, e]) := (rfl)
@[simp] theorem cYes_ap : VL.cYes σ = .ok true := (rfl)
@[simp] theorem hN_ap {it : ItD} : VL.hN i it σ = some (σ.set i (some (itD it))) := (rfl)
@[simp] theorem hNil_ap : hNil [] σ = some σ := (rfl)
variable {hf : HF} {hs : HsF}
@[simp] theorem hCons_ap : hCons hf hs (d :: ds) σ = (hf (.one d) σ).bind fun σ => hs ds σ := (rfl)
@[simp] theorem hT_ap {it : ItD} : hT n hs it σ = (partsD it).bind fun ds => if ds.length = n then hs ds σ else none := (rfl)
@[simp] theorem itD_one : itD (.one d) = d := (rfl)
@[simp] theorem itD_tup : itD (.tup ds) = .tup ds := (rfl)
@[simp] theorem partsD_tup : partsD (.tup ds) = some ds := (rfl)
@[simp] theorem partsD_one : partsD (.one (.tup ds)) = some ds := (rfl)
@[simp] theorem forgetS_nil : forgetS [] σ = σ := (rfl)
@[simp] theorem forgetS_cons {is : List Nat} : forgetS (i :: is) σ = forgetS is (σ.set i none) := (rfl)
end
/-! ### operators upon data -/
section
variable {i j : Int} {b c : Bool} {ds es : List D} {d e : D} {x y : Str}
@[simp] theorem gI0_s {g : Int → Int → D} : gI0 g (.int i) (.int j) = some (.d (g i j)) := (rfl)
@[simp] theorem gAdd_i : gAdd (.int i) (.int j) = some (.d (.int (i + j))) := (rfl)
theorem gAdd_l (h : ds.length + es.length ≤ 100000) : gAdd (.lst ds) (.lst es) = some (.l ((ds ++ es).map .d)) := by show (if _ then _ else _) = _; rw [if_pos (le_size h)]
theorem cm_l (h1 : -(2 ^ 64) < i) (h2 : i < 2 ^ 64) : CMul i j := .inl ⟨h1, h2⟩
theorem gMul_i (h : CMul i j) : gMul (.int i) (.int j) = some (.d (.int (i * j))) := by show (if _ then _ else _) = _; rw [if_pos h]
theorem gMul_l (h1 : -(2 ^ 64) < i) (h2 : i < 2 ^ 64) : gMul (.int i) (.int j) = some (.d (.int (i * j))) := gMul_i (cm_l h1 h2)
theorem gMod_s (h : 0 < j) : gMod (.int i) (.int j) = some (.d (.int (i % j))) := by show (if _ then _ else _) = _; rw [if_pos h]
theorem cd_w (h1 : 0 < j) (h2 : j.natAbs < 2 ^ 9000) : CDivW i j := ⟨h1, (Nat.log2_lt (by omega)).mpr h2⟩
theorem gDiv_b (h1 : 0 < j) (h2 : j.natAbs < 2 ^ 9000) : gDiv (.int i) (.int j) = some (.d (.int (i / j))) := by show (if _ then _ else _) = _; rw [if_pos (cd_w h1 h2)]
theorem gDiv_s (h1 : 0 < j) (h2 : j < 2 ^ 64) : gDiv (.int i) (.int j) = some (.d (.int (i / j))) := gDiv_b h1 (Nat.lt_trans (by omega : j.natAbs < 2 ^ 64) (Nat.pow_lt_pow_right (by decide) (by decide)))
@[simp] theorem gIs_s : gIs d .non = some (.d (.bl (isNon d))) := (rfl)
@[simp] theorem gIsN_s : gIsN d .non = some (.d (.bl (!isNon d))) := (rfl)
@[simp] theorem isNon_n : isNon .non = true := (rfl)
@[simp] theorem isNon_i : isNon (.int i) = false := (rfl)
@[simp] theorem isNon_b : isNon (.bl b) = false := (rfl)
@[simp] theorem isNon_t : isNon (.tup ds) = false := (rfl)
@[simp] theorem isNon_l : isNon (.lst ds) = false := (rfl)
@[simp] theorem gLen_l : gLenA [.lst ds] = some (.d (.int ds.length)) := (rfl)
@[simp] theorem gLen_t : gLenA [.tup ds] = some (.d (.int ds.length)) := (rfl)
@[simp] theorem gLen_s {ns : List Int} : gLenA [.scr ns] = some (.d (.int ns.length)) := by
  have : gLenA [.scr ns] = some (.d (.int ((ns.map D.int).length : Nat))) := rfl
  rw [this, List.length_map]
@[simp] theorem gI1_s {g : Int → Int} : gI1 g [.int i] = some (.d (.int (g i))) := (rfl)
@[simp] theorem gI2_s {g : Int → Int → Int} : gI2 g [.int i, .int j] = some (.d (.int (g i j))) := (rfl)
@[simp] theorem gIx_l : gIx (.lst ds) (.int i) = (atI ds i).map .d := (rfl)
@[simp] theorem gIx_t : gIx (.tup ds) (.int i) = (atI ds i).map .d := (rfl)
@[simp] theorem gIx_s {ns : List Int} : gIx (.scr ns) (.int i) = (atI (ns.map D.int) i).map .d := (rfl)
theorem atI_ge {α : Type} (l : List α) (i : Int) (h : 0 ≤ i) : atI l i = l[i.toNat]? := by
  unfold atI ixN
  rw [if_pos h]
  by_cases hl : i < (l.length : Int)
  · rw [if_pos hl]; rfl
  · rw [if_neg hl]
    show none = _
    rw [List.getElem?_eq_none (by omega)]
@[simp] theorem atI_mapS {α β : Type} {f : α → β} {l : List α} : atI (l.map f) i = (atI l i).map f := VL.atI_map f l i
@[simp] theorem atI_nat {α : Type} {l : List α} {n : Nat} : atI l (n : Int) = l[n]? := by rw [atI_ge _ _ (by omega)]; rfl
@[simp] theorem atI_0 {α : Type} {a : α} {l : List α} : atI (a :: l) 0 = some a := by rw [atI_ge _ _ (by omega)]; rfl
@[simp] theorem atI_1 {α : Type} {a b : α} {l : List α} : atI (a :: b :: l) 1 = some b := by rw [atI_ge _ _ (by omega)]; rfl
@[simp] theorem atI_2 {α : Type} {a b c : α} {l : List α} : atI (a :: b :: c :: l) 2 = some c := by rw [atI_ge _ _ (by omega)]; rfl
@[simp] theorem atI_3 {α : Type} {a b c d : α} {l : List α} : atI (a :: b :: c :: d :: l) 3 = some d := by rw [atI_ge _ _ (by omega)]; rfl
@[simp] theorem atI_4 {α : Type} {a b c d e : α} {l : List α} : atI (a :: b :: c :: d :: e :: l) 4 = some e := by rw [atI_ge _ _ (by omega)]; rfl
@[simp] theorem gList_l : gList [.lst ds] = some (.l (ds.map .d)) := (rfl)
@[simp] theorem gList_t : gList [.tup ds] = some (.l (ds.map .d)) := (rfl)
@[simp] theorem gTuple_l : gTuple [.lst ds] = some (.d (.tup ds)) := (rfl)
@[simp] theorem gTuple_t : gTuple [.tup ds] = some (.d (.tup ds)) := (rfl)
@[simp] theorem gRange1_s : gRange1 [.int i] = some (.d (.rng 0 i)) := (rfl)
@[simp] theorem gRange2_s : gRange2 [.int i, .int j] = some (.d (.rng i j)) := (rfl)
theorem intsD_l {ns : List Int} : intsD (.lst (ns.map .int)) = some ns := by show allI _ = _; exact allI_i ns
@[simp] theorem gSum_s {ns : List Int} : gSum [.lst (ns.map .int)] = some (.d (.int ns.sum)) := by show ((intsD _).map _) = _; rw [intsD_l]; rfl
@[simp] theorem gSortI_s {ns : List Int} : gSortI [.lst (ns.map .int)] = some (.l ((srt ns).map fun i => .d (.int i))) := by show ((intsD _).map _) = _; rw [intsD_l]; rfl
theorem gMin_s {ns : List Int} (h : ns ≠ []) : gMin [.lst (ns.map .int)] = some (.d (.int (minI ns))) := by
  show (match intsD (.lst (ns.map .int)) with | some (n :: ns) => _ | _ => _) = _
  rw [intsD_l]
  cases ns with
  | nil => exact absurd rfl h
  | cons n ns => rfl
theorem bsD_l {ns : List Bool} : bsD (.lst (ns.map .bl)) = some ns := by show allB _ = _; exact allB_b ns
@[simp] theorem gAny_s {ns : List Bool} : gAny [.lst (ns.map .bl)] = some (.d (.bl (ns.any id))) := by show ((bsD _).map _) = _; rw [bsD_l]; rfl
@[simp] theorem gAll_s {ns : List Bool} : gAll [.lst (ns.map .bl)] = some (.d (.bl (ns.all id))) := by show ((bsD _).map _) = _; rw [bsD_l]; rfl
@[simp] theorem isi_ii : gIsi [.int i, .ty "int"] = some (.d (.bl true)) := (rfl)
@[simp] theorem isi_ib : gIsi [.int i, .ty "bool"] = some (.d (.bl false)) := (rfl)
@[simp] theorem isi_bi : gIsi [.bl b, .ty "int"] = some (.d (.bl true)) := (rfl)
@[simp] theorem isi_bb : gIsi [.bl b, .ty "bool"] = some (.d (.bl true)) := (rfl)
@[simp] theorem isi_ll : gIsi [.lst ds, .ty "list"] = some (.d (.bl true)) := (rfl)
@[simp] theorem isi_lt : gIsi [.lst ds, .ty "tuple"] = some (.d (.bl false)) := (rfl)
@[simp] theorem isi_tt : gIsi [.tup ds, .ty "tuple"] = some (.d (.bl true)) := (rfl)
@[simp] theorem isi_tl : gIsi [.tup ds, .ty "list"] = some (.d (.bl false)) := (rfl)
@[simp] theorem isi_nl : gIsi [.non, .ty "list"] = some (.d (.bl false)) := (rfl)
@[simp] theorem isi_nt : gIsi [.non, .ty "tuple"] = some (.d (.bl false)) := (rfl)
@[simp] theorem isi_ni : gIsi [.non, .ty "int"] = some (.d (.bl false)) := (rfl)
@[simp] theorem kSeq_l : kSeq [.lst ds] = some (ds.map .one) := (rfl)
@[simp] theorem kSeq_t : kSeq [.tup ds] = some (ds.map .one) := (rfl)
@[simp] theorem kSeq_s {ns : List Int} : kSeq [.scr ns] = some (ns.map fun i => .one (.int i)) := by
  show some ((ns.map D.int).map ItD.one) = _
  rw [List.map_map]; rfl
theorem kRange1_s (h : inR j) : kRange1 [.int j] = some (itR 0 j) := by show (if _ then _ else _) = _; rw [if_pos h]
@[simp] theorem kEnum_l : kEnum [.lst ds] = some (ds.mapIdx fun i u => .tup [.int (i : Nat), u]) := (rfl)
@[simp] theorem kEnum_t : kEnum [.tup ds] = some (ds.mapIdx fun i u => .tup [.int (i : Nat), u]) := (rfl)
@[simp] theorem kZip_l : kZip [.lst ds, .lst es] = some (List.zipWith (fun x y => .tup [x, y]) ds es) := (rfl)
@[simp] theorem kZip_t : kZip [.tup ds, .tup es] = some (List.zipWith (fun x y => .tup [x, y]) ds es) := (rfl)
end
/-! ### flat, frz, views -/
section
variable {d : D} {ds : List D} {o : O} {os : List O} {ω : Om}
@[simp] theorem flat_n : flat .non = true := (rfl)
@[simp] theorem flat_b {b : Bool} : flat (.bl b) = true := (rfl)
@[simp] theorem flat_i {i : Int} : flat (.int i) = true := (rfl)
@[simp] theorem flat_str {x : Str} : flat (.str x) = true := (rfl)
@[simp] theorem flat_r {i j : Int} : flat (.rng i j) = true := (rfl)
@[simp] theorem flat_t : flat (.tup ds) = flatL ds := by unfold flat; rfl
@[simp] theorem flatL_n : flatL [] = true := by unfold flatL; rfl
@[simp] theorem flatL_c : flatL (d :: ds) = (flat d && flatL ds) := by rw [flatL]
@[simp] theorem flatO_d : flatO (.d d) = flat d := by unfold flatO; rfl
@[simp] theorem flatO_l : flatO (.l os) = flatOL os := by unfold flatO; rfl
@[simp] theorem flatOL_n : flatOL [] = true := by unfold flatOL; rfl
@[simp] theorem flatOL_c : flatOL (o :: os) = (flatO o && flatOL os) := by rw [flatOL]
theorem flatOL_map {α : Type} {f : α → O} {l : List α} (h : ∀ a ∈ l, flatO (f a) = true) : flatOL (l.map f) = true := by
  induction l with
  | nil => rfl
  | cons a l ih =>
    rw [List.map_cons, flatOL_c, h a List.mem_cons_self, ih fun b hb => h b (List.mem_cons_of_mem _ hb)]; rfl
theorem flatL_map {α : Type} {f : α → D} {l : List α} (h : ∀ a ∈ l, flat (f a) = true) : flatL (l.map f) = true := by
  induction l with
  | nil => rfl
  | cons a l ih =>
    rw [List.map_cons, flatL_c, h a List.mem_cons_self, ih fun b hb => h b (List.mem_cons_of_mem _ hb)]; rfl
@[simp] theorem flatOL_ints {ns : List Int} : flatOL (ns.map fun i => .d (.int i)) = true := flatOL_map fun _ _ => by simp
@[simp] theorem flatL_ints {ns : List Int} : flatL (ns.map .int) = true := flatL_map fun _ _ => by simp
@[simp] theorem frz_d' : frz (.d d) = d := frz_d d
@[simp] theorem frz_l : frz (.l os) = .lst (frzL os) := by unfold frz; rfl
@[simp] theorem frzL_n : frzL [] = [] := by unfold frzL; rfl
@[simp] theorem frzL_c : frzL (o :: os) = frz o :: frzL os := by rw [frzL]
@[simp] theorem frzL_md {α : Type} {f : α → D} {l : List α} : frzL (l.map fun a => .d (f a)) = l.map f := by
  induction l with
  | nil => rfl
  | cons a l ih => rw [List.map_cons, frzL_c, ih]; simp
@[simp] theorem frzL_d' : frzL (ds.map O.d) = ds := frzL_d ds
theorem frzL_map {α : Type} {f : α → O} {l : List α} : frzL (l.map f) = l.map fun a => frz (f a) := by
  induction l with
  | nil => rfl
  | cons a l ih => rw [List.map_cons, frzL_c, ih]; rfl
@[simp] theorem viewA_n : viewA [] = [] := (rfl)
@[simp] theorem viewA_s : viewA (some o :: ω) = some (frz o) :: viewA ω := (rfl)
@[simp] theorem viewA_u : viewA (none :: ω) = none :: viewA ω := (rfl)
@[simp] theorem viewD_n : viewD [] = [] := (rfl)
@[simp] theorem viewD_d : viewD (some (.d d) :: ω) = some d :: viewD ω := (rfl)
@[simp] theorem viewD_l : viewD (some (.l os) :: ω) = none :: viewD ω := (rfl)
@[simp] theorem viewD_u : viewD (none :: ω) = none :: viewD ω := (rfl)
end
/-! ### expressions that change; statements -/
section
variable {ω : Om} {f : PEF} {d e : D} {o : O} {i : Nat} {b : Bool}
def liAR (x : R Exn D) (ω : Om) : RX D := match x with
  | .ok d => if flat d = true then .ok (d, ω) else .no
  | .ex x => if flatL (x.fs.map (·.2)) = true then .ex (x, ω) else .no
  | .no => .no
@[simp] theorem liA_ap : liA f ω = liAR (f (viewA ω)) ω := (rfl)
@[simp] theorem liAR_s : liAR (.ok d) ω = if flat d = true then .ok (d, ω) else .no := (rfl)
def liDR {α : Type} (x : R Exn α) (ω : Om) : RX α := match x with
  | .ok d => .ok (d, ω)
  | .ex x => .ex (x, ω)
  | .no => .no
@[simp] theorem liD_ap : liD f ω = liDR (f (viewD ω)) ω := by unfold liD liDR; cases f (viewD ω) <;> rfl
@[simp] theorem liDR_s {α : Type} {d : α} : liDR (.ok d) ω = .ok (d, ω) := (rfl)
variable {fo_ : POF} {fb : PBF}
def loAR (x : R Exn O) (ω : Om) : RX O := match x with
  | .ok d => if flatO d = true then .ok (d, ω) else .no
  | .ex x => if flatL (x.fs.map (·.2)) = true then .ex (x, ω) else .no
  | .no => .no
@[simp] theorem loA_ap : loA fo_ ω = loAR (fo_ (viewA ω)) ω := (rfl)
@[simp] theorem loAR_s : loAR (.ok o) ω = if flatO o = true then .ok (o, ω) else .no := (rfl)
@[simp] theorem loD_ap : loD fo_ ω = liDR (fo_ (viewD ω)) ω := by unfold loD liDR; cases fo_ (viewD ω) <;> rfl
def lbAR (x : R Exn Bool) (ω : Om) : RX Bool := match x with
  | .ok d => .ok (d, ω)
  | .ex x => if flatL (x.fs.map (·.2)) = true then .ex (x, ω) else .no
  | .no => .no
@[simp] theorem lbA_ap : lbA fb ω = lbAR (fb (viewA ω)) ω := (rfl)
@[simp] theorem lbAR_s : lbAR (.ok b) ω = .ok (b, ω) := (rfl)
@[simp] theorem bnd_s {α β : Type} {a : α} {k : α → Om → RX β} : bnd (.ok (a, ω)) k = k a ω := (rfl)
def eoDR (x : RX D) : RX O := bnd x fun d ω => .ok (.d d, ω)
def evOR (x : RX O) : RX D := bnd x fun o ω => .ok (frz o, ω)
variable {fe ge : EV} {fO : EO} {eb ec : EB}
@[simp] theorem eoD_ap : eoD fe ω = eoDR (fe ω) := (rfl)
@[simp] theorem eoDR_s : eoDR (.ok (d, ω)) = .ok (.d d, ω) := (rfl)
@[simp] theorem evO_ap : evO fO ω = evOR (fO ω) := (rfl)
@[simp] theorem evOR_s : evOR (.ok (o, ω)) = .ok (frz o, ω) := (rfl)
def mvR (i : Nat) (x : Option (Option O)) (ω : Om) : RX O := match x with
  | some (some o) => .ok (o, ω.set i none)
  | _ => .no
@[simp] theorem cMv_ap : cMv i ω = mvR i (ω[i]?) ω := by unfold cMv mvR; rfl
@[simp] theorem mvR_s : mvR i (some (some o)) ω = .ok (o, ω.set i none) := (rfl)
def fzR (i : Nat) (x : Option (Option O)) (ω : Om) : RX D := match x with
  | some (some o) => .ok (frz o, ω.set i (some (.d (frz o))))
  | _ => .no
@[simp] theorem cFz_ap : cFz i ω = fzR i (ω[i]?) ω := by unfold cFz fzR; rfl
@[simp] theorem fzR_s : fzR i (some (some o)) ω = .ok (frz o, ω.set i (some (.d (frz o)))) := (rfl)
def eBinK (g : G2) (x : RX D) (fb : EV) : RX D := bnd x fun x ω => bnd (fb ω) fun y ω => match g x y with
  | some o => .ok (frz o, ω)
  | none => .no
def ofo (o : Option O) (ω : Om) : RX D := match o with
  | some o => .ok (frz o, ω)
  | none => .no
def eBinK2 (g : G2) (x : D) (y : RX D) : RX D := bnd y fun y ω => ofo (g x y) ω
variable {op : G2}
@[simp] theorem eBin_ap : eBin op fe ge ω = eBinK op (fe ω) ge := (rfl)
@[simp] theorem eBinK_s : eBinK op (.ok (d, ω)) ge = eBinK2 op d (ge ω) := by
  unfold eBinK eBinK2
  rw [bnd_s]
  congr 1
@[simp] theorem eBinK2_s : eBinK2 op d (.ok (e, ω)) = ofo (op d e) ω := (rfl)
@[simp] theorem ofo_s : ofo (some o) ω = .ok (frz o, ω) := (rfl)
def eBK (x : RX D) : RX Bool := bnd x fun d ω => match asB d with
  | some b => .ok (b, ω)
  | none => .no
@[simp] theorem eB_ap : eB fe ω = eBK (fe ω) := (rfl)
@[simp] theorem eBK_s : eBK (.ok (.bl b, ω)) = .ok (b, ω) := (rfl)
def eAndK (x : RX Bool) (g : EB) : RX Bool := bnd x fun b ω => if b = true then g ω else .ok (false, ω)
def eOrK (x : RX Bool) (g : EB) : RX Bool := bnd x fun b ω => if b = true then .ok (true, ω) else g ω
@[simp] theorem eAnd_ap : eAnd eb ec ω = eAndK (eb ω) ec := (rfl)
@[simp] theorem eAndK_s : eAndK (.ok (b, ω)) ec = if b = true then ec ω else .ok (false, ω) := (rfl)
@[simp] theorem eOr_ap : eOr eb ec ω = eOrK (eb ω) ec := (rfl)
@[simp] theorem eOrK_s : eOrK (.ok (b, ω)) ec = if b = true then .ok (true, ω) else ec ω := (rfl)
def eNotK (x : RX Bool) : RX Bool := bnd x fun b ω => .ok (!b, ω)
@[simp] theorem eNot_ap : eNot eb ω = eNotK (eb ω) := (rfl)
@[simp] theorem eNotK_s : eNotK (.ok (b, ω)) = .ok (!b, ω) := (rfl)
def eNotVK (x : RX D) : RX D := bnd x fun d ω => match asB d with
  | some b => .ok (.bl (!b), ω)
  | none => .no
@[simp] theorem eNotV_ap : eNotV fe ω = eNotVK (fe ω) := (rfl)
@[simp] theorem eNotVK_s : eNotVK (.ok (.bl b, ω)) = .ok (.bl (!b), ω) := (rfl)
def eAndVK (x : RX Bool) (g : EV) : RX D := bnd x fun b ω => if b = true then g ω else .ok (.bl false, ω)
def eOrVK (x : RX Bool) (g : EV) : RX D := bnd x fun b ω => if b = true then .ok (.bl true, ω) else g ω
@[simp] theorem eAndV_ap : eAndV fe ge ω = eAndVK (eBK (fe ω)) ge := (rfl)
@[simp] theorem eAndVK_s : eAndVK (.ok (b, ω)) ge = if b = true then ge ω else .ok (.bl false, ω) := (rfl)
@[simp] theorem eOrV_ap : eOrV fe ge ω = eOrVK (eBK (fe ω)) ge := (rfl)
@[simp] theorem eOrVK_s : eOrVK (.ok (b, ω)) ge = if b = true then .ok (.bl true, ω) else ge ω := (rfl)
def eIfK {α : Type} (x : RX Bool) (f g : Om → RX α) : RX α := bnd x fun b ω => if b = true then f ω else g ω
@[simp] theorem eIf_ap {α : Type} {f g : Om → RX α} : eIf eb f g ω = eIfK (eb ω) f g := (rfl)
@[simp] theorem eIfK_s {α : Type} {f g : Om → RX α} : eIfK (.ok (b, ω)) f g = if b = true then f ω else g ω := (rfl)
variable {fa : EAF} {ds : List D} {os : List O} {foa : EOAF}
@[simp] theorem eaNil_ap : eaNil ω = .ok ([], ω) := (rfl)
def eaConsK (x : RX D) (g : EAF) : RX (List D) := bnd x fun d ω => bnd (g ω) fun ds ω => .ok (d :: ds, ω)
def eaConsK2 (d : D) (y : RX (List D)) : RX (List D) := bnd y fun ds ω => .ok (d :: ds, ω)
@[simp] theorem eaCons_ap : eaCons fe fa ω = eaConsK (fe ω) fa := (rfl)
@[simp] theorem eaConsK_s : eaConsK (.ok (d, ω)) fa = eaConsK2 d (fa ω) := (rfl)
@[simp] theorem eaConsK2_s : eaConsK2 d (.ok (ds, ω)) = .ok (d :: ds, ω) := (rfl)
def eTupK (x : RX (List D)) : RX D := bnd x fun ds ω => if ds.length ≤ sizeLine then .ok (.tup ds, ω) else .no
@[simp] theorem eTup_ap : eTup fa ω = eTupK (fa ω) := (rfl)
theorem eTupK_s (h : ds.length ≤ 100000) : eTupK (.ok (ds, ω)) = .ok (.tup ds, ω) := by show (if _ then _ else _) = _; rw [if_pos (le_size h)]
@[simp] theorem eTupK_1 {a : D} : eTupK (.ok ([a], ω)) = .ok (.tup [a], ω) := eTupK_s (by simp)
@[simp] theorem eTupK_2 {a b : D} : eTupK (.ok ([a, b], ω)) = .ok (.tup [a, b], ω) := eTupK_s (by simp)
@[simp] theorem eTupK_3 {a b c : D} : eTupK (.ok ([a, b, c], ω)) = .ok (.tup [a, b, c], ω) := eTupK_s (by simp)
@[simp] theorem eTupK_4 {a b c d : D} : eTupK (.ok ([a, b, c, d], ω)) = .ok (.tup [a, b, c, d], ω) := eTupK_s (by simp)
@[simp] theorem eTupK_5 {a b c d e : D} : eTupK (.ok ([a, b, c, d, e], ω)) = .ok (.tup [a, b, c, d, e], ω) := eTupK_s (by simp)
@[simp] theorem eoNil_ap : eoNil ω = .ok ([], ω) := (rfl)
def eoConsK (x : RX O) (g : EOAF) : RX (List O) := bnd x fun d ω => bnd (g ω) fun ds ω => .ok (d :: ds, ω)
def eoConsK2 (d : O) (y : RX (List O)) : RX (List O) := bnd y fun ds ω => .ok (d :: ds, ω)
@[simp] theorem eoCons_ap : eoCons fO foa ω = eoConsK (fO ω) foa := (rfl)
@[simp] theorem eoConsK_s : eoConsK (.ok (o, ω)) foa = eoConsK2 o (foa ω) := (rfl)
@[simp] theorem eoConsK2_s : eoConsK2 o (.ok (os, ω)) = .ok (o :: os, ω) := (rfl)
def eLstK (x : RX (List O)) : RX O := bnd x fun ds ω => if ds.length ≤ sizeLine then .ok (.l ds, ω) else .no
@[simp] theorem eLst_ap : eLst foa ω = eLstK (foa ω) := (rfl)
theorem eLstK_s (h : os.length ≤ 100000) : eLstK (.ok (os, ω)) = .ok (.l os, ω) := by show (if _ then _ else _) = _; rw [if_pos (le_size h)]
@[simp] theorem eLstK_0 : eLstK (.ok ([], ω)) = .ok (.l [], ω) := eLstK_s (by simp)
@[simp] theorem eLstK_1 {a : O} : eLstK (.ok ([a], ω)) = .ok (.l [a], ω) := eLstK_s (by simp)
@[simp] theorem eLstK_2 {a b : O} : eLstK (.ok ([a, b], ω)) = .ok (.l [a, b], ω) := eLstK_s (by simp)
@[simp] theorem eLstK_3 {a b c : O} : eLstK (.ok ([a, b, c], ω)) = .ok (.l [a, b, c], ω) := eLstK_s (by simp)
@[simp] theorem eLstK_4 {a b c d : O} : eLstK (.ok ([a, b, c, d], ω)) = .ok (.l [a, b, c, d], ω) := eLstK_s (by simp)
def eCBK (g : GL) (x : RX (List D)) : RX O := bnd x fun ds ω => match g ds with
  | some o => .ok (o, ω)
  | none => .no
def oro (x : Option O) (ω : Om) : RX O := match x with
  | some o => .ok (o, ω)
  | none => .no
variable {gl : GL}
@[simp] theorem eCB_ap : eCB gl fa ω = eCBK gl (fa ω) := (rfl)
@[simp] theorem eCBK_s : eCBK gl (.ok (ds, ω)) = oro (gl ds) ω := (rfl)
@[simp] theorem oro_s : oro (some o) ω = .ok (o, ω) := (rfl)
def eCallK (f : PFn) (n : Nat) (x : RX (List D)) : RX O := bnd x fun ds ω => if ds.length = n then (match f ds with
  | .ok o => .ok (o, ω)
  | _ => .no) else .no
def okX (x : R Exn O) (ω : Om) : RX O := match x with
  | .ok o => .ok (o, ω)
  | _ => .no
variable {pf : PFn} {n : Nat}
@[simp] theorem eCall_ap : eCall pf n fa ω = eCallK pf n (fa ω) := (rfl)
@[simp] theorem eCallK_s : eCallK pf n (.ok (ds, ω)) = if ds.length = n then okX (pf ds) ω else .no := (rfl)
@[simp] theorem okX_s : okX (.ok o) ω = .ok (o, ω) := (rfl)
/-! calls that change -/
variable {as : List Ar} {er : ErF} {mf : MFn} {P : List Nat} {ps : List O}
@[simp] theorem erNil_ap : erNil ω = .ok ([], ω) := (rfl)
def erDK (x : RX D) (g : ErF) : RX (List Ar) := bnd x fun d ω => bnd (g ω) fun as ω => .ok (.d d :: as, ω)
def erK2 (a : Ar) (y : RX (List Ar)) : RX (List Ar) := bnd y fun as ω => .ok (a :: as, ω)
@[simp] theorem erD_ap : erD fe er ω = erDK (fe ω) er := (rfl)
@[simp] theorem erDK_s : erDK (.ok (d, ω)) er = erK2 (.d d) (er ω) := (rfl)
@[simp] theorem erK2_s {a : Ar} : erK2 a (.ok (as, ω)) = .ok (a :: as, ω) := (rfl)
def erOK (x : RX O) (g : ErF) : RX (List Ar) := bnd x fun d ω => bnd (g ω) fun as ω => .ok (.o d :: as, ω)
@[simp] theorem erO_ap : erO fO er ω = erOK (fO ω) er := (rfl)
@[simp] theorem erOK_s : erOK (.ok (o, ω)) er = erK2 (.o o) (er ω) := (rfl)
def erSK (i : Nat) (x : Option (Option O)) (y : RX (List Ar)) : RX (List Ar) := match x with
  | some (some _) => erK2 (.s i) y
  | _ => .no
@[simp] theorem erS_ap : erS i er ω = erSK i (ω[i]?) (er ω) := by
  unfold erS erSK erK2
  rfl
@[simp] theorem erSK_s {y : RX (List Ar)} : erSK i (some (some o)) y = erK2 (.s i) y := (rfl)
@[simp] theorem takeA_n : takeA [] ω = some ([], ω) := (rfl)
@[simp] theorem takeA_d : takeA (.d d :: as) ω = (takeA as ω).map fun p => (.d d :: p.1, p.2) := (rfl)
@[simp] theorem takeA_o : takeA (.o o :: as) ω = (takeA as ω).map fun p => (o :: p.1, p.2) := (rfl)
def takeK (i : Nat) (x : Option (Option O)) (as : List Ar) (ω : Om) : Option (List O × Om) := match x with
  | some (some o) => (takeA as (ω.set i none)).map fun p => (o :: p.1, p.2)
  | _ => none
@[simp] theorem takeA_s : takeA (.s i :: as) ω = takeK i (ω[i]?) as ω := by
  rw [takeA.eq_def]
  simp only [takeK]
  all_goals (rcases ω[i]? with _ | _ | _ <;> rfl)
@[simp] theorem takeK_s : takeK i (some (some o)) as ω = (takeA as (ω.set i none)).map fun p => (o :: p.1, p.2) := (rfl)
@[simp] theorem putA_n : putA as [] ps ω = ω := by unfold putA; rfl
def putK (a : Option Ar) (as : List Ar) (P : List Nat) (o : O) (ps : List O) (ω : Om) : Om := match a with
  | some (.s i) => putA as P ps (ω.set i (some o))
  | _ => putA as P ps ω
@[simp] theorem putA_c {p : Nat} : putA as (p :: P) (o :: ps) ω = putK (as[p]?) as P o ps ω := by
  rw [putA.eq_def]
  simp only [putK]
  all_goals (rcases as[p]? with _ | _ | _ <;> rfl)
@[simp] theorem putK_s : putK (some (.s i)) as P o ps ω = putA as P ps (ω.set i (some o)) := (rfl)
@[simp] theorem putK_o {o' : O} : putK (some (.o o')) as P o ps ω = putA as P ps ω := (rfl)
@[simp] theorem putK_d {d : D} : putK (some (.d d)) as P o ps ω = putA as P ps ω := (rfl)
def callMK (f : MFn) (n : Nat) (P : List Nat) (x : RX (List Ar)) : RX O := bnd x fun as ω => match takeA as ω with
  | some (os, ω1) => if os.length = n then (match f os with
    | .ok (o, ps) => .ok (o, putA as P ps ω1)
    | _ => .no) else .no
  | none => .no
def callMK3 (P : List Nat) (as : List Ar) (ω1 : Om) (x : R Exn (O × List O)) : RX O := match x with
  | .ok (o, ps) => .ok (o, putA as P ps ω1)
  | _ => .no
def callMK2 (f : MFn) (n : Nat) (P : List Nat) (as : List Ar) (x : Option (List O × Om)) : RX O := match x with
  | some (os, ω1) => if os.length = n then callMK3 P as ω1 (f os) else .no
  | none => .no
@[simp] theorem eCallM_ap : eCallM mf n P er ω = callMK mf n P (er ω) := (rfl)
@[simp] theorem callMK_s : callMK mf n P (.ok (as, ω)) = callMK2 mf n P as (takeA as ω) := (rfl)
@[simp] theorem callMK2_s : callMK2 mf n P as (some (os, ω)) = if os.length = n then callMK3 P as ω (mf os) else .no := (rfl)
@[simp] theorem callMK3_s : callMK3 P as ω (.ok (o, ps)) = .ok (o, putA as P ps ω) := (rfl)
/-! statements -/
variable {f1 f2 : VS} {fl : Fl}
def seqK (x : RX Fl) (g : VS) : RX Fl := bnd x fun fl ω => match fl with
  | .nx => g ω
  | fl => .ok (fl, ω)
@[simp] theorem cSeq_ap : cSeq f1 f2 ω = seqK (f1 ω) f2 := (rfl)
@[simp] theorem seqK_nx : seqK (.ok (.nx, ω)) f2 = f2 ω := (rfl)
@[simp] theorem seqK_rt : seqK (.ok (.rt o, ω)) f2 = .ok (.rt o, ω) := (rfl)
@[simp] theorem seqK_bk : seqK (.ok (.bk, ω)) f2 = .ok (.bk, ω) := (rfl)
@[simp] theorem seqK_ct : seqK (.ok (.ct, ω)) f2 = .ok (.ct, ω) := (rfl)
@[simp] theorem cNx_ap : cNx ω = .ok (.nx, ω) := (rfl)
@[simp] theorem cBk_ap : cBk ω = .ok (.bk, ω) := (rfl)
@[simp] theorem cCt_ap : cCt ω = .ok (.ct, ω) := (rfl)
def setK (i : Nat) (x : RX O) : RX Fl := bnd x fun o ω => .ok (.nx, ω.set i (some o))
@[simp] theorem cSet_ap : cSet i fO ω = setK i (fO ω) := (rfl)
@[simp] theorem setK_s : setK i (.ok (o, ω)) = .ok (.nx, ω.set i (some o)) := (rfl)
def retK (x : RX O) : RX Fl := bnd x fun o ω => .ok (.rt o, ω)
@[simp] theorem cRet_ap : cRet fO ω = retK (fO ω) := (rfl)
@[simp] theorem retK_s : retK (.ok (o, ω)) = .ok (.rt o, ω) := (rfl)
@[simp] theorem cRetN_ap : cRetN ω = .ok (.rt (.d .non), ω) := (rfl)
def dropK (x : RX O) : RX Fl := bnd x fun _ ω => .ok (.nx, ω)
@[simp] theorem cDrop_ap : cDrop fO ω = dropK (fO ω) := (rfl)
@[simp] theorem dropK_s : dropK (.ok (o, ω)) = .ok (.nx, ω) := (rfl)
def ifK (x : RX Bool) (f g : VS) : RX Fl := bnd x fun b ω => if b = true then f ω else g ω
@[simp] theorem cIfS_ap : cIfS eb f1 f2 ω = ifK (eb ω) f1 f2 := (rfl)
@[simp] theorem ifK_s : ifK (.ok (b, ω)) f1 f2 = if b = true then f1 ω else f2 ω := (rfl)
def appK (i : Nat) (x : RX O) : RX Fl := bnd x fun o ω => match ω[i]? with
    | some (some (.l os)) => if os.length < sizeLine then .ok (.nx, ω.set i (some (.l (os ++ [o])))) else .no
    | _ => .no
variable {g : GF} {gs : GsF}
@[simp] theorem gN_ap {it : ItD} : VL.gN i it ω = some (ω.set i (some (.d (itD it)))) := (rfl)
@[simp] theorem gNil_ap : VL.gNil [] ω = some ω := (rfl)
@[simp] theorem gCons_ap : VL.gCons g gs (d :: ds) ω = (g (.one d) ω).bind fun ω => gs ds ω := (rfl)
@[simp] theorem gT_ap {it : ItD} : VL.gT n gs it ω = (partsD it).bind fun ds => if ds.length = n then gs ds ω else none := (rfl)
@[simp] theorem forget_n : forget [] ω = ω := (rfl)
@[simp] theorem forget_c {is : List Nat} : forget (i :: is) ω = forget is (ω.set i none) := (rfl)
@[simp] theorem startO_n : startO 0 [] = [] := (rfl)
@[simp] theorem startO_0 : startO (n + 1) [] = none :: startO n [] := (rfl)
@[simp] theorem startO_c : startO (n + 1) (o :: os) = some o :: startO n os := by
  unfold startO
  simp
end
end VL
/-! VL: loops, comprehensions, what holds behind a statement. -/
namespace VL
open PySem PySem.Spec PyProof.Rows L2 FL
/-! ### encoded sequences -/
section
variable {α β : Type}
theorem kSeq_m {xs : List α} {e : α → D} : kSeq [.lst (xs.map e)] = some (xs.map fun a => .one (e a)) := by rw [kSeq_l, List.map_map]; rfl
theorem kRange1_m {j : Int} (h : inR j) : kRange1 [.int j] = some ((rangeL 0 j).map fun i => .one (.int i)) := kRange1_s h
end
/-! ### comprehensions -/
section
variable {α : Type} {σ : Sg} {g : HF} {c : PBF} {f : POF} {fi : PIF} {vs : List Nat} {xs : List α}
theorem compL_eq {τ : Sg} (enc : α → ItD) (p : α → Bool) (v : α → O) : ∀ (xs : List α), (∀ y ∈ xs, ∃ σ1, g (enc y) τ = some σ1 ∧ c σ1 = .ok (p y) ∧ (p y = true → f σ1 = .ok (v y))) → compL g c f τ (xs.map enc) = .ok ((xs.filter p).map v)
  | [], _ => rfl
  | x :: xs, h => by
    obtain ⟨σ1, h1, h2, h3⟩ := h x List.mem_cons_self
    have ih := compL_eq enc p v xs fun y hy => h y (List.mem_cons_of_mem _ hy)
    rw [List.map_cons, compL]
    simp only [h1, h2]
    cases hp : p x with
    | false => simp only [ih, List.filter_cons_of_neg (show ¬ p x = true by rw [hp]; exact Bool.false_ne_true)]
    | true =>
      simp only [h3 hp, ih, List.filter_cons_of_pos hp, List.map_cons, rmap_ok]
theorem cComp_eq (enc : α → ItD) (p : α → Bool) (v : α → O) (hx : fi σ = .ok (xs.map enc)) (hl : xs.length ≤ 100000)
    (h : ∀ y ∈ xs, ∃ σ1, g (enc y) (forgetS vs σ) = some σ1 ∧ c σ1 = .ok (p y) ∧ (p y = true → f σ1 = .ok (v y))) : cComp fi g c f vs σ = .ok (.l ((xs.filter p).map v)) := by
  unfold cComp
  rw [hx]
  show (R.bind (compL g c f (forgetS vs σ) (xs.map enc)) _) = _
  rw [compL_eq enc p v xs h]
  show (if _ then _ else _) = _
  rw [if_pos (le_size (by rw [List.length_map]; exact Nat.le_trans (List.length_filter_le _ _) hl))]
theorem cComp_all (enc : α → ItD) (v : α → O) (hx : fi σ = .ok (xs.map enc)) (hl : xs.length ≤ 100000)
    (h : ∀ y ∈ xs, ∃ σ1, g (enc y) (forgetS vs σ) = some σ1 ∧ f σ1 = .ok (v y)) : cComp fi g VL.cYes f vs σ = .ok (.l (xs.map v)) := by
  have := cComp_eq (c := VL.cYes) enc (fun _ => true) v hx hl fun y hy => let ⟨s, h1, h2⟩ := h y hy; ⟨s, h1, rfl, fun _ => h2⟩
  rwa [List.filter_eq_self.mpr (fun _ _ => rfl)] at this
end
/-! ### what holds behind a statement -/
theorem WX.bnd {α β : Type} {r : RX α} {f : α → Om → RX β} {Q : β → Om → Prop} (h : WX r fun a ω => WX (f a ω) Q) : WX (VL.bnd r f) Q := by
  obtain ⟨h⟩ := h
  cases r with
  | ok p => exact h
  | ex x => exact h.elim
  | no => exact h.elim
section
variable {f g : VS} {ω : Om} {nx ct bk : Om → Prop} {rt : O → Om → Prop} {i : Nat} {fe : EO} {ev : EV} {c : EB}
theorem W.bnd {α : Type} {r : RX α} {f : α → Om → RX Fl} (h : WX r fun a ω => W (f a ω) nx ct bk rt) : W (VL.bnd r f) nx ct bk rt := by
  obtain ⟨h⟩ := h
  cases r with
  | ok p => exact h
  | ex x => exact h.elim
  | no => exact h.elim
theorem W.nxI (h : nx ω) : W (.ok (.nx, ω)) nx ct bk rt := ⟨h⟩
theorem W.ctI (h : ct ω) : W (.ok (.ct, ω)) nx ct bk rt := ⟨h⟩
theorem W.bkI (h : bk ω) : W (.ok (.bk, ω)) nx ct bk rt := ⟨h⟩
theorem W.rtI {o : O} (h : rt o ω) : W (.ok (.rt o, ω)) nx ct bk rt := ⟨h⟩
theorem w_seq (h : W (f ω) (fun ω => W (g ω) nx ct bk rt) ct bk rt) : W (cSeq f g ω) nx ct bk rt := by
  unfold cSeq
  obtain ⟨h⟩ := h
  revert h
  cases f ω with
  | ok p =>
    obtain ⟨fl, ω'⟩ := p
    cases fl with
    | nx => exact id
    | ct => exact W.ctI
    | bk => exact W.bkI
    | rt o => exact W.rtI
  | ex x => exact fun h => h.elim
  | no => exact fun h => h.elim
theorem w_set (h : WX (fe ω) fun o ω => nx (ω.set i (some o))) : W (cSet i fe ω) nx ct bk rt := W.bnd (h.imp fun _ _ z => W.nxI z)
theorem w_ret (h : WX (fe ω) rt) : W (cRet fe ω) nx ct bk rt := W.bnd (h.imp fun _ _ z => W.rtI z)
theorem w_if (h : WX (c ω) fun b ω => (b = true → W (f ω) nx ct bk rt) ∧ (b = false → W (g ω) nx ct bk rt)) : W (cIfS c f g ω) nx ct bk rt := by
  refine W.bnd (h.imp fun b ω ⟨h1, h2⟩ => ?_)
  cases b with
  | true => exact h1 rfl
  | false => exact h2 rfl
theorem w_nx (h : nx ω) : W (cNx ω) nx ct bk rt := W.nxI h
theorem w_app {os0 : List O} (h0 : ω[i]? = some (some (.l os0))) (h : WX (fe ω) fun o ω => ∃ os, ω[i]? = some (some (.l os)) ∧ os.length < 100000 ∧ nx (ω.set i (some (.l (os ++ [o]))))) : W (cApp i fe ω) nx ct bk rt := by
  unfold cApp
  simp only [h0]
  refine W.bnd (h.imp fun o ω ⟨os, h1, h2, h3⟩ => ?_)
  simp only [h1]
  rw [if_pos (lt_size h2)]
  exact W.nxI h3
theorem w_of {r : RX Fl} {ω' : Om} (e : r = .ok (.nx, ω')) (h : nx ω') : W r nx ct bk rt := by rw [e]; exact W.nxI h
section
variable {α : Type} {gt : GF} {cl : List Nat} {fi : XIF}
theorem w_loop (enc : α → ItD) (P : List α → Om → Prop) (xs : List α)
    (hs : ∀ done x rest ω, xs = done ++ x :: rest → P done ω → ∃ ω1, gt (enc x) ω = some ω1 ∧ W (f ω1) (fun ω => P (done ++ [x]) (forget cl ω)) (fun ω => P (done ++ [x]) (forget cl ω)) (fun ω => nx (forget cl ω)) rt)
    (hn : ∀ ω, P xs ω → nx ω) (h0 : P [] ω) : W (loopF gt f cl (xs.map enc) ω) nx ct bk rt := by
  have key : ∀ (rest done : List α) (ω : Om), xs = done ++ rest → P done ω → W (loopF gt f cl (rest.map enc) ω) nx ct bk rt := by
    intro rest
    induction rest with
    | nil =>
      intro done ω e p
      rw [List.append_nil] at e
      subst e
      exact W.nxI (hn _ p)
    | cons x rest ih =>
      intro done ω e p
      obtain ⟨ω1, h1, h2⟩ := hs done x rest ω e p
      rw [List.map_cons, loopF]
      simp only [h1]
      obtain ⟨h2⟩ := h2
      revert h2
      cases f ω1 with
      | ok q =>
        obtain ⟨fl, ω2⟩ := q
        cases fl with
        | nx => exact fun h => ih (done ++ [x]) _ (by rw [e, List.append_assoc]; rfl) h
        | ct => exact fun h => ih (done ++ [x]) _ (by rw [e, List.append_assoc]; rfl) h
        | bk => exact fun h => W.nxI h
        | rt o => exact fun h => W.rtI h
      | ex x => exact fun h => h.elim
      | no => exact fun h => h.elim
  exact key xs [] ω rfl h0
/-- for: P holds after the items done -/
theorem w_for (enc : α → ItD) (xs : List α) (P : List α → Om → Prop) {ω0 : Om} (hi : fi ω = .ok (xs.map enc, ω0)) (h0 : P [] (forget cl ω0))
    (hs : ∀ done x rest ω, xs = done ++ x :: rest → P done ω → ∃ ω1, gt (enc x) ω = some ω1 ∧ W (f ω1) (fun ω => P (done ++ [x]) (forget cl ω)) (fun ω => P (done ++ [x]) (forget cl ω)) (fun ω => nx (forget cl ω)) rt)
    (hn : ∀ ω, P xs ω → nx ω) : W (cFor fi gt f cl ω) nx ct bk rt := by
  unfold cFor
  rw [hi]
  exact w_loop enc P xs hs hn h0
/-- while: at most n turns; m is what is left to do -/
theorem w_while {n : Nat} (P : Nat → Om → Prop) (m : Nat) (hm : m < n) (h0 : P m ω)
    (hs : ∀ m ω, P m ω → WX (c ω) fun b ω => (b = false → nx ω) ∧ (b = true → W (f ω) (fun ω => ∃ m', m' < m ∧ P m' (forget cl ω)) (fun ω => ∃ m', m' < m ∧ P m' (forget cl ω)) (fun ω => nx (forget cl ω)) rt)) : W (loopW c f cl n ω) nx ct bk rt := by
  induction n generalizing m ω with
  | zero => omega
  | succ n ih =>
    rw [loopW]
    refine W.bnd ((hs m ω h0).imp fun b ω1 ⟨h2, h3⟩ => ?_)
    cases b with
    | false => exact W.nxI (h2 rfl)
    | true =>
      obtain ⟨h4⟩ := h3 rfl
      rw [if_pos rfl]
      revert h4
      cases f ω1 with
      | ok q =>
        obtain ⟨fl, ω2⟩ := q
        cases fl with
        | nx => exact fun ⟨m', l, k⟩ => ih m' (by omega) k
        | ct => exact fun ⟨m', l, k⟩ => ih m' (by omega) k
        | bk => exact fun h => W.nxI h
        | rt o => exact fun h => W.rtI h
      | ex x => exact fun h => h.elim
      | no => exact fun h => h.elim
end
/-! ### expressions -/
section
variable {fa fb : EV} {Q : D → Om → Prop} {QO : O → Om → Prop} {QB : Bool → Om → Prop} {op : G2} {pf : PEF} {po : POF} {pb : PBF} {d : D}
theorem x_liA (e : pf (viewA ω) = .ok d) (hf : flat d = true) (h : Q d ω) : WX (liA pf ω) Q := by rw [liA_ap, e, liAR_s, if_pos hf]; exact .r h
theorem x_liD (e : pf (viewD ω) = .ok d) (h : Q d ω) : WX (liD pf ω) Q := by rw [liD_ap, e, liDR_s]; exact .r h
theorem x_loD {o : O} (e : po (viewD ω) = .ok o) (h : QO o ω) : WX (loD po ω) QO := by rw [loD_ap, e, liDR_s]; exact .r h
theorem x_lbA {b : Bool} (e : pb (viewA ω) = .ok b) (h : QB b ω) : WX (lbA pb ω) QB := by rw [lbA_ap, e, lbAR_s]; exact .r h
theorem x_eoD (h : WX (fa ω) fun d ω => QO (.d d) ω) : WX (eoD fa ω) QO := WX.bnd (h.imp fun _ _ z => .r z)
theorem x_evO {fo : EO} (h : WX (fo ω) fun o ω => Q (frz o) ω) : WX (evO fo ω) Q := WX.bnd (h.imp fun _ _ z => .r z)
theorem x_bin (h : WX (fa ω) fun x ω => WX (fb ω) fun y ω => ∃ o, op x y = some o ∧ Q (frz o) ω) : WX (eBin op fa fb ω) Q := by
  refine WX.bnd (h.imp fun x ω h => WX.bnd (h.imp fun y ω ⟨o, e, q⟩ => ?_))
  simp only [e]
  exact .r q
theorem x_anil {Q : List D → Om → Prop} (h : Q [] ω) : WX (eaNil ω) Q := .r h
theorem x_acons {fs : EAF} {Q : List D → Om → Prop} (h : WX (fa ω) fun d ω => WX (fs ω) fun ds ω => Q (d :: ds) ω) : WX (eaCons fa fs ω) Q := WX.bnd (h.imp fun d ω h => WX.bnd (h.imp fun _ _ z => .r z))
theorem x_tup {fs : EAF} (h : WX (fs ω) fun ds ω => ds.length ≤ 100000 ∧ Q (.tup ds) ω) : WX (eTup fs ω) Q := by
  refine WX.bnd (h.imp fun ds ω ⟨h1, h2⟩ => ?_)
  rw [if_pos (le_size h1)]; exact .r h2
theorem x_cb {fs : EAF} {g : GL} (h : WX (fs ω) fun ds ω => ∃ o, g ds = some o ∧ QO o ω) : WX (eCB g fs ω) QO := by
  refine WX.bnd (h.imp fun ds ω ⟨o, e, q⟩ => ?_)
  simp only [e]; exact .r q
end
end
/-! ### defs -/
section
variable {n : Nat} {body : VS} {P : List Nat}
theorem w_fnP {ds : List D} {Q : O → Prop} (h : W (body (startO n (ds.map .d))) (fun _ => Q (.d .non)) (fun _ => False) (fun _ => False) (fun o _ => Q o)) : ∃ o, fnP n body ds = .ok o ∧ Q o := by
  unfold fnP
  obtain ⟨h⟩ := h
  revert h
  cases body (startO n (ds.map .d)) with
  | ok p =>
    obtain ⟨fl, ω⟩ := p
    cases fl with
    | nx => exact fun h => ⟨_, rfl, h⟩
    | ct => exact fun h => h.elim
    | bk => exact fun h => h.elim
    | rt o => exact fun h => ⟨_, rfl, h⟩
  | ex x => exact fun h => h.elim
  | no => exact fun h => h.elim
/-- a def whose answer is known -/
theorem w_isP {ds : List D} {u : O} (h : W (body (startO n (ds.map .d))) (fun _ => u = .d .non) (fun _ => False) (fun _ => False) (fun o _ => o = u)) : fnP n body ds = .ok u := by
  obtain ⟨o, e, rfl⟩ := w_fnP (Q := fun o => o = u) (h.imp (fun _ z => z.symm) (fun _ z => z) (fun _ z => z) fun _ _ z => z)
  exact e
theorem w_fnM {os : List O} {Q : O → List O → Prop} (h : W (body (startO n os)) (fun ω => ∃ ps, pickO P ω = some ps ∧ Q (.d .non) ps) (fun _ => False) (fun _ => False) (fun o ω => ∃ ps, pickO P ω = some ps ∧ Q o ps)) : ∃ o ps, fnM n P body os = .ok (o, ps) ∧ Q o ps := by
  unfold fnM
  obtain ⟨h⟩ := h
  revert h
  cases body (startO n os) with
  | ok p =>
    obtain ⟨fl, ω⟩ := p
    cases fl with
    | nx => exact fun ⟨ps, e, q⟩ => ⟨_, ps, by simp only [e], q⟩
    | ct => exact fun h => h.elim
    | bk => exact fun h => h.elim
    | rt o => exact fun ⟨ps, e, q⟩ => ⟨_, ps, by simp only [e], q⟩
  | ex x => exact fun h => h.elim
  | no => exact fun h => h.elim
@[simp] theorem pickO_n {ω : Om} : pickO [] ω = some [] := rfl
end
end VL
/-! VL: stores by simp; the laws' usual defs. -/
namespace VL
open PySem PySem.Spec PyProof.Rows L2 FL
section
variable {ω : Om} {i k : Nat} {o : O} {os : List O} {p : List Nat} {j : Int} {pl : PlF} {fi : PEF} {fO : EO} {q : Nat × List Nat}
def subK (pl : PlF) (fi : PEF) (x : RX O) : RX Fl := bnd x fun o ω => match pl ω, fi (viewA ω) with
  | some q, .ok (.int j) => (match subO ω q with
    | some (.l os) => (match ixN os.length j with
      | some k => .ok (.nx, putO ω q (.l (os.set k o)))
      | none => .no)
    | _ => .no)
  | _, _ => .no
def subK4 (q : Nat × List Nat) (x : Option Nat) (os : List O) (o : O) (ω : Om) : RX Fl := match x with
  | some k => .ok (.nx, putO ω q (.l (os.set k o)))
  | none => .no
def subK3 (q : Nat × List Nat) (j : Int) (x : Option O) (o : O) (ω : Om) : RX Fl := match x with
  | some (.l os) => subK4 q (ixN os.length j) os o ω
  | _ => .no
def subK2 (x : Option (Nat × List Nat)) (y : R Exn D) (o : O) (ω : Om) : RX Fl := match x, y with
  | some q, .ok (.int j) => subK3 q j (subO ω q) o ω
  | _, _ => .no
@[simp] theorem cSub_ap : cSub pl fi fO ω = subK pl fi (fO ω) := rfl
@[simp] theorem subK_s : subK pl fi (.ok (o, ω)) = subK2 (pl ω) (fi (viewA ω)) o ω := rfl
@[simp] theorem subK2_s {q : Nat × List Nat} : subK2 (some q) (.ok (.int j)) o ω = subK3 q j (subO ω q) o ω := rfl
@[simp] theorem subK3_s : subK3 q j (some (.l os)) o ω = subK4 q (ixN os.length j) os o ω := rfl
@[simp] theorem subK4_s : subK4 q (some k) os o ω = .ok (.nx, putO ω q (.l (os.set k o))) := rfl
def pvR (i : Nat) (x : Option (Option O)) : Option (Nat × List Nat) := match x with
  | some (some _) => some (i, [])
  | _ => none
@[simp] theorem pV_ap : pV i ω = pvR i (ω[i]?) := by unfold pV pvR; rfl
@[simp] theorem pvR_s : pvR i (some (some o)) = some (i, []) := rfl
def subR (x : Option (Option O)) (p : List Nat) : Option O := match x with
  | some (some o) => getP o p
  | _ => none
@[simp] theorem subO_ap : subO ω (i, p) = subR (ω[i]?) p := by unfold subO subR; rfl
@[simp] theorem subR_s : subR (some (some o)) p = getP o p := rfl
@[simp] theorem getP_n : getP o [] = some o := by cases o <;> (unfold getP; rfl)
@[simp] theorem getP_c : getP (.l os) (k :: p) = (os[k]?).bind fun o => getP o p := by rw [getP]
def putR (i : Nat) (x : Option (Option O)) (p : List Nat) (o' : O) (ω : Om) : Om := match x with
  | some (some o) => ω.set i (some (setP o p o'))
  | _ => ω
@[simp] theorem putO_ap {o' : O} : putO ω (i, p) o' = putR i (ω[i]?) p o' ω := by unfold putO putR; rfl
@[simp] theorem putR_s {o' : O} : putR i (some (some o)) p o' ω = ω.set i (some (setP o p o')) := rfl
@[simp] theorem setP_n {o' : O} : setP o [] o' = o' := by cases o <;> (unfold setP; rfl)
theorem setP_c {o o' : O} (h : os[k]? = some o) : setP (.l os) (k :: p) o' = .l (os.set k (setP o p o')) := by
  rw [setP.eq_def]; simp only [h]
theorem ixN_nn {n : Nat} {j : Int} (h0 : 0 ≤ j) (h1 : j < n) : ixN n j = some j.toNat := by unfold ixN; rw [if_pos h0, if_pos h1]
@[simp] theorem ixN_0 {n : Nat} : ixN (n + 1) 0 = some 0 := ixN_nn (by omega) (by omega)
@[simp] theorem ixN_1 {n : Nat} : ixN (n + 2) 1 = some 1 := ixN_nn (by omega) (by omega)
@[simp] theorem ixN_2 {n : Nat} : ixN (n + 3) 2 = some 2 := ixN_nn (by omega) (by omega)
end
/-! ### the laws' usual defs -/
def v_source : PFn := fnP 2 (cSeq (cIfS (lbA (cB (cBin gLt (cV 1) (cCB gLenA (aCons (cV 0) (aNil)))))) (cRet (loD (cLst (oCons (cCBO gAbs (aCons (cBin gIx (cV 0) (cV 1)) (aNil))) (oCons (oD (cV 1)) (oNil)))))) (cNx))
      (cSeq (cIfS (lbA (cB (cBin gEq (cCB gLenA (aCons (cV 0) (aNil))) (cK (.int 0))))) (cRet (loD (cLst (oCons (oD (cBin gAdd (cBin gMul (cK (.int 1009)) (cV 1)) (cK (.int 17)))) (oCons (oD (cV 1)) (oNil)))))) (cNx))
      (cRet (loD (cLst (oCons (oD (cBin gAdd (cBin gAdd (cBin gMul (cK (.int 31)) (cCB gAbs (aCons (cBin gIx (cV 0) (cBin gMod (cCB gInt (aCons (cV 1) (aNil))) (cCB gLenA (aCons (cV 0) (aNil))))) (aNil)))) (cBin gMul (cK (.int 1009)) (cV 1))) (cK (.int 17)))) (oCons (oD (cV 1)) (oNil))))))))
def v_draw : MFn := fnM 4 [0] (cSeq (cSet 2 (eoD (liA (cBin gIx (cV 0) (cK (.int 0))))))
      (cSeq (cIfS (lbA (cB (cBin gGe (cV 2) (cBin gPow (cK (.int 10)) (cK (.int 18)))))) (cSeq (cSub (pV 0) (cK (.int 0)) (eoD (liD (cBin gDiv (cV 2) (cV 1)))))
      (cRet (eoD (liD (cBin gMod (cCB gInt (aCons (cV 2) (aNil))) (cV 1)))))) (cNx))
      (cSeq (cSub (pV 0) (cK (.int 1)) (eoD (liA (cBin gAdd (cBin gIx (cV 0) (cK (.int 1))) (cK (.int 1))))))
      (cSeq (cSet 3 (eoD (liA (cBin gMod (cCB gInt (aCons (cBin gAdd (cBin gAdd (cV 2) (cBin gMul (cK (.int 7919)) (cBin gIx (cV 0) (cK (.int 1))))) (cK (.int 13))) (aNil))) (cK (.int 2147483647))))))
      (cSeq (cSet 3 (eoD (liD (cBin gMod (cCB gInt (aCons (cBin gMul (cV 3) (cBin gAdd (cV 3) (cK (.int 48271)))) (aNil))) (cK (.int 2147483629))))))
      (cSeq (cSet 3 (eoD (liA (cBin gMod (cCB gInt (aCons (cBin gAdd (cBin gMul (cV 3) (cBin gAdd (cV 3) (cK (.int 69621)))) (cBin gMul (cK (.int 31)) (cBin gIx (cV 0) (cK (.int 1))))) (aNil))) (cK (.int 2147483647))))))
      (cRet (eoD (liD (cBin gMod (cCB gInt (aCons (cBin gDiv (cV 3) (cK (.int 9))) (aNil))) (cV 1)))))))))))
def v_between : MFn := fnM 3 [0] (cRet (eoD (eBin gAdd (liD (cV 1)) (evO (eCallM v_draw 2 [0] (erS 0 (erD (liD (cBin gAdd (cBin gSub (cV 2) (cV 1)) (cK (.int 1)))) (erNil))))))))
def v_whole : PFn := fnP 1 (cRet (eoD (liD (cAndV (cCB gIsi (aCons (cV 0) (aCons (cK (.ty "int")) (aNil)))) (cBV (cNot (cB (cCB gIsi (aCons (cV 0) (aCons (cK (.ty "bool")) (aNil)))))))))))
def v_wholes : PFn := fnP 2 (cSeq (cIfS (lbA (cNot (cTr (cCB gIsi (aCons (cV 0) (aCons (cK (.ty "list")) (aNil))))))) (cRet (eoD (liD (cK (.bl false))))) (cNx))
      (cSeq (cFor (iSX (liD (cV 0))) (gN 1) (cIfS (lbA (cNot (cTr (dO (cCall v_whole 1 (aCons (cV 1) (aNil))))))) (cRet (eoD (liD (cK (.bl false))))) (cNx)) [1])
      (cRet (eoD (liD (cK (.bl true)))))))
def srcO (s : Int × Int) : O := .l [.d (.int s.1), .d (.int s.2)]
theorem cpow_s {i j : Int} (h : CPow i j) : gPow (.int i) (.int j) = some (.d (.int (i ^ j.toNat))) := by show (if _ then _ else _) = _; rw [if_pos h]
theorem gPow_18 : gPow (.int 10) (.int 18) = some (.d (.int 1000000000000000000)) := by rw [cpow_s (by decide +kernel)]; rfl
def drawX (s : Int × Int) : Int :=
  (((s.1 + 7919 * (s.2 + 1) + 13) % 2147483647 * ((s.1 + 7919 * (s.2 + 1) + 13) % 2147483647 + 48271)) % 2147483629 * ((((s.1 + 7919 * (s.2 + 1) + 13) % 2147483647 * ((s.1 + 7919 * (s.2 + 1) + 13) % 2147483647 + 48271)) % 2147483629) + 69621) + 31 * (s.2 + 1)) % 2147483647 / 9
theorem draw_ok {s : Int × Int} {n : Int} (h0 : 0 < n) (h1 : n < 2 ^ 64) : ∃ r s', v_draw [srcO s, .d (.int n)] = .ok (.d (.int r), [srcO s']) ∧ 0 ≤ r ∧ r < n := by
  by_cases hc : 1000000000000000000 ≤ s.1
  · refine ⟨s.1 % n, (s.1 / n, s.2), ?_, Int.emod_nonneg _ (by omega), Int.emod_lt_of_pos _ h0⟩
    simp [v_draw, fnM, srcO, gPow_18, hc, gDiv_s h0 h1, gMod_s h0, pickO]
  · have e0 : gMul (.int 7919) (.int (s.2 + 1)) = some (.d (.int (7919 * (s.2 + 1)))) := gMul_l (by decide) (by decide)
    have e1 : gMul (.int 31) (.int (s.2 + 1)) = some (.d (.int (31 * (s.2 + 1)))) := gMul_l (by decide) (by decide)
    have e2 : ∀ x y : Int, gMul (.int (x % 2147483647)) (.int y) = some (.d (.int (x % 2147483647 * y))) := fun x y => gMul_l (by omega) (by omega)
    have e3 : ∀ x y : Int, gMul (.int (x % 2147483629)) (.int y) = some (.d (.int (x % 2147483629 * y))) := fun x y => gMul_l (by omega) (by omega)
    have e4 : ∀ x : Int, gMod (.int x) (.int 2147483647) = some (.d (.int (x % 2147483647))) := fun x => gMod_s (by decide)
    have e5 : ∀ x : Int, gMod (.int x) (.int 2147483629) = some (.d (.int (x % 2147483629))) := fun x => gMod_s (by decide)
    have e6 : ∀ x : Int, gDiv (.int x) (.int 9) = some (.d (.int (x / 9))) := fun x => gDiv_s (by decide) (by decide)
    have e7 : ∀ x : Int, gMod (.int x) (.int n) = some (.d (.int (x % n))) := fun x => gMod_s h0
    refine ⟨drawX s % n, (s.1, s.2 + 1), ?_, Int.emod_nonneg _ (by omega), Int.emod_lt_of_pos _ h0⟩
    simp [v_draw, fnM, srcO, gPow_18, hc, pickO, e0, e1, e2, e3, e4, e5, e6, e7, drawX]
theorem eqD_i (i j : Int) : eqD (.int i) (.int j) = some (decide (i = j)) := by
  show (if SeqAt.shaped (.int i) = true ∧ SeqAt.shaped (.int j) = true then some (i == j) else none) = _
  rw [if_pos ⟨by unfold SeqAt.shaped; simp [PyData.canLay0, PyData.depth], by unfold SeqAt.shaped; simp [PyData.canLay0, PyData.depth]⟩]
  rw [Bool.beq_eq_decide_eq]
@[simp] theorem gEq_i {i j : Int} : gEq (.int i) (.int j) = some (.d (.bl (decide (i = j)))) := by unfold gEq; rw [eqD_i]; rfl
@[simp] theorem gNe_i {i j : Int} : gNe (.int i) (.int j) = some (.d (.bl (!decide (i = j)))) := by unfold gNe; rw [eqD_i]; rfl
theorem source_ok (ns : List Int) (k : Nat) : ∃ s, v_source [.scr ns, .int (k : Int)] = .ok (srcO s) := by
  by_cases h : k < ns.length
  · have h' : (k : Int) < (ns.length : Int) := by omega
    refine ⟨(if ns[k] < 0 then -ns[k] else ns[k], k), ?_⟩
    simp [v_source, fnP, h, srcO]
  · by_cases hz : ns = []
    · subst hz
      exact ⟨(1009 * (k : Int) + 17, k), by simp [v_source, fnP, srcO, gMul_l, show ¬ (k : Int) < 0 by omega]⟩
    · have hl : 0 < ns.length := List.length_pos_iff.mpr hz
      have hl' : 0 < (ns.length : Int) := by omega
      have hm : k % ns.length < ns.length := Nat.mod_lt _ hl
      have hz' : ¬ (ns.length : Int) = 0 := by omega
      have e1 : gMod (.int (k : Int)) (.int (ns.length : Int)) = some (.d (.int ((k % ns.length : Nat) : Int))) := by rw [gMod_s hl']; rfl
      have e2 : atI ns ((k : Int) % (ns.length : Int)) = some ns[k % ns.length] := by rw [← Int.natCast_emod, atI_nat, List.getElem?_eq_getElem hm]
      refine ⟨(31 * (if ns[k % ns.length] < 0 then -ns[k % ns.length] else ns[k % ns.length]) + 1009 * (k : Int) + 17, k), ?_⟩
      simp [v_source, fnP, srcO, h, hz, hz', e1, e2, hm, gMul_l]
@[simp] theorem whole_i {i : Int} : v_whole [.int i] = .ok (.d (.bl true)) := by simp [v_whole, fnP]
theorem wholes_i {ns : List Int} : v_wholes [.lst (ns.map .int)] = .ok (.d (.bl true)) := by
  unfold v_wholes
  refine w_isP ?_
  show W (cSeq _ _ [some (.d (.lst (ns.map .int))), none]) _ _ _ _
  refine w_seq (w_if (x_lbA (b := false) (by simp) ⟨(fun h => nomatch h), fun _ => w_nx ?_⟩))
  refine w_seq (w_for (fun i : Int => .one (.int i)) ns (fun done ω => ω = [some (.d (.lst (ns.map .int))), none]) (ω0 := [some (.d (.lst (ns.map .int))), none]) (by simp [iSX, kSeq_m]) rfl ?_ ?_)
  · rintro done x rest ω er rfl
    exact ⟨_, rfl, w_if (x_lbA (b := false) (by simp) ⟨(fun h => nomatch h), fun _ => w_nx (by simp)⟩)⟩
  · rintro ω rfl
    exact w_ret (x_eoD (x_liD (d := .bl true) rfl rfl))
end VL
/-! VL: ranges; data that compare as their values do. -/
namespace VL
open PySem PySem.Spec PyProof.Rows L2 FL
theorem rangeL_len (lo hi : Int) : (rangeL lo hi).length = (hi - lo).toNat := by unfold rangeL; simp
theorem rangeL_split {lo hi x : Int} {done rest : List Int} (e : rangeL lo hi = done ++ x :: rest) : x = lo + (done.length : Int) ∧ lo + (done.length : Int) < hi := by
  have e1 := congrArg (fun l => l[done.length]?) e
  have e2 := congrArg List.length e
  rw [rangeL_len] at e2
  simp at e1 e2
  unfold rangeL at e1
  rw [List.getElem?_map, List.getElem?_range (by omega)] at e1
  simp at e1
  exact ⟨e1.symm, by omega⟩
theorem inR_s {i : Int} (h0 : -1000000000 ≤ i) (h1 : i ≤ 1000000000) : FL.inR i := by unfold FL.inR; omega
/-! ### encodings -/
section
variable {α β γ : Type} [DecidableEq α] [DecidableEq β] [DecidableEq γ] {e : α → D} {e' : β → D} {e'' : γ → D} {k k' k'' : Nat} {p : α → PyData} {p' : β → PyData} {p'' : γ → PyData}
theorem EqE.pair (h : EqE e k p) (h' : EqE e' k p') : EqE (fun x : α × β => D.tup [e x.1, e' x.2]) (k + 1) fun x => .tuple [p x.1, p' x.2] where
  py x := by
    show (((pyD (e x.1)).bind fun a => ((pyD (e' x.2)).bind fun b => (some []).map fun q => b :: q).map fun q => a :: q)).map PyData.tuple = _
    rw [h.py, h'.py]; rfl
  can x := by
    show (PyData.canLay0 (p x.1) && (PyData.canLay0 (p' x.2) && true)) = true
    rw [h.can, h'.can]; rfl
  dep x := by
    show max (PyData.depth (p x.1)) (max (PyData.depth (p' x.2)) 0) + 1 ≤ k + 1
    have := h.dep x.1
    have := h'.dep x.2
    omega
  eq x y := by
    obtain ⟨x1, x2⟩ := x
    obtain ⟨y1, y2⟩ := y
    simp only [PyData.eqv, PyData.eqvAll, h.eq, h'.eq]
    by_cases c : x1 = y1 <;> by_cases c' : x2 = y2 <;> simp [c, c']
theorem EqE.eqD (h : EqE e k p) (hk : k ≤ 64) (a b : α) : VL.eqD (e a) (e b) = some (decide (a = b)) := by
  unfold VL.eqD
  rw [h.py, h.py]
  show (if _ then _ else _) = _
  have s : ∀ a, SeqAt.shaped (p a) = true := fun a => by
    unfold SeqAt.shaped
    rw [h.can, decide_eq_true (Nat.le_trans (h.dep a) hk)]; rfl
  rw [if_pos ⟨s a, s b⟩, h.eq]
theorem EqE.gEq (h : EqE e k p) (hk : k ≤ 64) (a b : α) : VL.gEq (e a) (e b) = some (.d (.bl (decide (a = b)))) := by unfold VL.gEq; rw [h.eqD hk]; rfl
theorem EqE.gNe (h : EqE e k p) (hk : k ≤ 64) (a b : α) : VL.gNe (e a) (e b) = some (.d (.bl (!decide (a = b)))) := by unfold VL.gNe; rw [h.eqD hk]; rfl
end
@[simp] theorem gEq_b {a b : Bool} : gEq (.bl a) (.bl b) = some (.d (.bl (decide (a = b)))) := EqE.bl.gEq (by decide) a b
@[simp] theorem gNe_b {a b : Bool} : gNe (.bl a) (.bl b) = some (.d (.bl (!decide (a = b)))) := EqE.bl.gNe (by decide) a b
@[simp] theorem gEq_il {xs ys : List Int} : gEq (.lst (xs.map .int)) (.lst (ys.map .int)) = some (.d (.bl (decide (xs = ys)))) := EqE.int.lst.gEq (by decide) xs ys
@[simp] theorem gNe_il {xs ys : List Int} : gNe (.lst (xs.map .int)) (.lst (ys.map .int)) = some (.d (.bl (!decide (xs = ys)))) := EqE.int.lst.gNe (by decide) xs ys
@[simp] theorem gEq_it {xs ys : List Int} : gEq (.tup (xs.map .int)) (.tup (ys.map .int)) = some (.d (.bl (decide (xs = ys)))) := EqE.int.tup.gEq (by decide) xs ys
@[simp] theorem gNe_it {xs ys : List Int} : gNe (.tup (xs.map .int)) (.tup (ys.map .int)) = some (.d (.bl (!decide (xs = ys)))) := EqE.int.tup.gNe (by decide) xs ys
end VL
/-! VL: draws behind WX; cuts. -/
namespace VL
open PySem PySem.Spec PyProof.Rows L2 FL
section
variable {ω : Om} {i : Nat} {pe pe' : PEF} {n a b : Int} {s : Int × Int} {Q : O → Om → Prop} {f : MFn} {g h : VS} {nx ct bk : Om → Prop} {rt : O → Om → Prop}
@[simp] theorem viewD_src : viewD (some (srcO s) :: ω) = none :: viewD ω := (rfl)
theorem viewD_x {x : Option O} : viewD (x :: ω) = x.bind dOnly :: viewD ω := (rfl)
@[simp] theorem dOnly_d {d : D} : dOnly (.d d) = some d := (rfl)
theorem w_cut (M : Om → Prop) (h1 : W (g ω) M ct bk rt) (k : ∀ ω, M ω → W (h ω) nx ct bk rt) : W (cSeq g h ω) nx ct bk rt := w_seq (h1.imp k (fun _ z => z) (fun _ z => z) fun _ _ z => z)
theorem x_drawX (hf : f = v_draw) {fe : EV} (h0 : ∃ o, ω[i]? = some (some o)) (h : WX (fe ω) fun d ω1 => ∃ n s, d = .int n ∧ ω1[i]? = some (some (srcO s)) ∧ 0 < n ∧ n < 2 ^ 64 ∧ ∀ r s', 0 ≤ r → r < n → Q (.d (.int r)) (ω1.set i (some (srcO s')))) : WX (eCallM f 2 [0] (erS i (erD fe erNil)) ω) Q := by
  subst hf
  obtain ⟨o, h0⟩ := h0
  rw [eCallM_ap, erS_ap, h0, erSK_s, erD_ap]
  obtain ⟨h⟩ := h
  revert h
  cases fe ω with
  | ok p =>
    obtain ⟨d, ω1⟩ := p
    rintro ⟨n, s, rfl, h1, n0, n1, q⟩
    obtain ⟨r, s', e, r0, r1⟩ := draw_ok (s := s) n0 n1
    rw [erDK_s, erNil_ap, erK2_s, erK2_s, callMK_s, takeA_s, h1, takeK_s, takeA_d, takeA_n]
    refine ⟨?_⟩
    show WXz (callMK2 v_draw 2 [0] _ (some ([srcO s, .d (.int n)], ω1.set i none))) Q
    rw [callMK2_s, if_pos (by rfl), e, callMK3_s, putA_c]
    show WXz (.ok (_, putK (some (.s i)) _ _ _ _ _)) Q
    rw [putK_s, putA_n, List.set_set]
    exact q r s' r0 r1
  | ex x => exact fun h => h.elim
  | no => exact fun h => h.elim
theorem x_draw (hf : f = v_draw) (h : ω[i]? = some (some (srcO s))) (hn : pe (viewD ω) = .ok (.int n)) (h0 : 0 < n) (h1 : n < 2 ^ 64) (q : ∀ r s', 0 ≤ r → r < n → Q (.d (.int r)) (ω.set i (some (srcO s')))) : WX (eCallM f 2 [0] (erS i (erD (liD pe) erNil)) ω) Q :=
  x_drawX hf ⟨_, h⟩ (x_liD hn ⟨n, s, rfl, h, h0, h1, q⟩)
end
end VL
/-! VL: defs with keyword-only parameters that have defaults. -/
namespace VL
open PySem PySem.Spec PyProof.Rows L2 FL
/-- n positional parameters, then the keyword-only ones kws with their defaults -/
structure OkK (P : Program) (w : World) (K : Frg) (mg : Str → Option Value) (k : Nat) (x : Str) (ps : List Str) (n : Nat) (kws : List (Str × V)) (f : PFn) : Prop where
  ex : ∃ fd, (∀ base : Heap, FnOk P w K mg base CX0 k (He.ga K x) fd ps (spP K ps.length f)) ∧ (∃ ds, Vals (kws.map (·.2)) ds ∧ Binds K fd ps ds) ∧ KBn K fd ps n (kws.map (·.1)) (fun us ws => us ++ ws) (fun vs zs => vs ++ zs)
  kp : PySem.W.keepIn K (.ref (He.ga K x)) = true
  g : mg x = some (.ref (He.ga K x))
section
variable {P : Program} {w : World} {K : Frg} {mg : Str → Option Value}
theorem OkK.mono {j k n : Nat} {x : Str} {ps : List Str} {kws : List (Str × V)} {f : PFn} (O : OkK P w K mg j x ps n kws f) (h : j ≤ k) : OkK P w K mg k x ps n kws f := by
  obtain ⟨fd, G, b, c⟩ := O.ex
  exact ⟨⟨fd, fun base => (G base).mono h, b, c⟩, O.kp, O.g⟩
theorem Reps.append {F : Hp} : ∀ {vs ws : List V} {ds es : List D}, Reps K F vs ds → Reps K F ws es → Reps K F (vs ++ ws) (ds ++ es)
  | _, _, _, _, .nil, r => r
  | _, _, _, _, .cons a b, r => .cons a (Reps.append b r)
end
/-- the defaults dds fill up -/
def cCallD (f : PFn) (n : Nat) (dds : List D) (fs : PAF) : POF := fun σ => (fs σ).bind fun ds => if (ds ++ dds).length = n then (match f (ds ++ dds) with
  | .ok o => .ok o
  | _ => .no) else .no
/-- positional ones and keywords -/
def cCallK (f : PFn) (n m l : Nat) (fs gs : PAF) : POF := fun σ => (fs σ).bind fun ds => (gs σ).bind fun es => if ds.length = n ∧ es.length = m ∧ n + m = l then (match f (ds ++ es) with
  | .ok o => .ok o
  | _ => .no) else .no
def PKs (X : Cx) (W : WW) (kws : List Keyword) (f : PAF) : Prop := PK X kws (tPA X.K W f)
section
variable {X : Cx} {W : WW} {k n : Nat} {x : Str} {ps : List Str} {kws : List (Str × V)} {f : PFn} {p pos kpos : Pos} {e : Expr} {es : List Expr} {nm : Option Str} {kw : List Keyword} {fa : PEF} {fs gs : PAF}
end
section
variable {σ : Sg} {fs gs : PAF} {f : PFn} {n m l : Nat} {dds ds es : List D}
def callDR (f : PFn) (n : Nat) (dds : List D) (x : R Exn (List D)) : R Exn O := x.bind fun ds => if (ds ++ dds).length = n then okR (f (ds ++ dds)) else .no
def callKR (f : PFn) (n m l : Nat) (x y : R Exn (List D)) : R Exn O := x.bind fun ds => y.bind fun es => if ds.length = n ∧ es.length = m ∧ n + m = l then okR (f (ds ++ es)) else .no
end
theorem augS_i {ω : Om} {i j : Nat} {fi f : PEF} {os : List O} {v c : Int} (h : ω[i]? = some (some (.l os))) (hi : fi (viewA ω) = .ok (.int (j : Int))) (hc : f (viewA ω) = .ok (.int c)) (hv : os[j]? = some (.d (.int v))) :
    cAugS gAddI (pV i) fi f ω = .ok (.nx, ω.set i (some (.l (os.set j (.d (.int (v + c))))))) := by
  unfold cAugS
  simp [h, hi, hc, hv]
theorem w_subV {ω : Om} {i : Nat} {fi : PEF} {fO : EO} {nx ct bk : Om → Prop} {rt : O → Om → Prop} (h : WX (fO ω) fun o ω1 => ∃ (k : Nat) (os : List O), fi (viewA ω1) = .ok (.int (k : Int)) ∧ ω1[i]? = some (some (.l os)) ∧ k < os.length ∧ nx (ω1.set i (some (.l (os.set k o))))) :
    W (cSub (pV i) fi fO ω) nx ct bk rt := by
  rw [cSub_ap]
  unfold subK
  refine W.bnd (h.imp fun o ω1 ⟨k, os, h1, h2, h3, q⟩ => ?_)
  have e : ixN os.length (k : Int) = some k := by rw [ixN_nn (by omega) (by omega)]; rfl
  simp only [pV_ap, h2, pvR_s, h1, subO_ap, subR_s, getP_n, e, putO_ap, putR_s, setP_n]
  exact W.nxI q
end VL
/-! VL: sorted(set(list of ints)), up to 1000 of them. -/
namespace VL
open PySem PySem.Spec PyProof.Rows L2 FL
section
variable {P : Program} {w : World} {A : Around} {E : Value → Shared → Prop} {s : Shared}
/-- the set that set() begins with -/
abbrev set0 (w : World) : Obj := { cls := .type "set", dict := none, data := .set #[] 0 (.fresh 0 0 (!w.params.followText "set-order")) }
abbrev withSet (w : World) (s : Shared) : Shared := { s with heap := s.heap.push (set0 w) }
end
/-- ascending, each once -/
def uni : List Int → List Int
  | [] => []
  | a :: l => if a ∈ l then uni l else a :: uni l
theorem mem_uni {k : Int} : ∀ {l : List Int}, k ∈ uni l ↔ k ∈ l
  | [] => Iff.rfl
  | a :: l => by
    unfold uni
    have ih := mem_uni (k := k) (l := l)
    by_cases h : a ∈ l
    · rw [if_pos h, ih, List.mem_cons]
      exact ⟨.inr, fun z => z.elim (fun e => e ▸ h) id⟩
    · rw [if_neg h, List.mem_cons, List.mem_cons, ih]
theorem uni_nodup : ∀ l : List Int, (uni l).Nodup
  | [] => List.nodup_nil
  | a :: l => by
    unfold uni
    by_cases h : a ∈ l
    · rw [if_pos h]; exact uni_nodup l
    · rw [if_neg h]; exact List.nodup_cons.mpr ⟨fun z => h (mem_uni.mp z), uni_nodup l⟩
def usrt (ns : List Int) : List Int := srt (uni ns)
theorem mem_usrt {k : Int} {ns : List Int} : k ∈ usrt ns ↔ k ∈ ns := by
  unfold usrt
  rw [(srt_perm _).mem_iff, mem_uni]
theorem usrt_lt (ns : List Int) : (usrt ns).Pairwise (· < ·) := lt_of_le_nodup _ (srt_le _) ((srt_perm _).nodup_iff.mpr (uni_nodup ns))
theorem usrt_eq {ns out : List Int} (h : out.Pairwise (· < ·)) (hm : ∀ k, k ∈ out ↔ k ∈ ns) : out = usrt ns := by
  have nd : ∀ {l : List Int}, l.Pairwise (· < ·) → l.Nodup := fun h => h.imp fun {a b} z => by omega
  have pm : out.Perm (usrt ns) := (List.perm_ext_iff_of_nodup (nd h) (nd (usrt_lt ns))).mpr fun k => by rw [hm, mem_usrt]
  exact pm.eq_of_pairwise (fun x y _ _ h1 h2 => by omega) h (usrt_lt ns)
def tSortSet (K : Frg) (ta : TE) : TE := fun σ H Q => ta σ H fun x H1 => ∃ (l : Addr) (ns : List Int), x = .ref l ∧ SqL K H1 l (ns.map V.int) ∧ ns.length ≤ 1000 ∧ ∀ p, H1 p = none → Q (.ref p) (upd H1 p (.lst ((usrt ns).map V.int)))
section
variable {X : Cx} {W : WW} {a : Expr} {ta : TE} {fa : PEF} {p p2 q pos : Pos}
def gSortSet : D → Option O := fun d => (intsD d).bind fun ns => if ns.length ≤ 1000 then some (.l ((usrt ns).map fun i => .d (.int i))) else none
def cSortSet (f : PEF) : POF := fun σ => (f σ).bind fun d => R.of (gSortSet d)
@[simp] theorem cSortSet_ap {σ : Sg} : cSortSet fa σ = (fa σ).bind fun d => R.of (gSortSet d) := (rfl)
end
end VL
/-! VL: methods of data: list.index of ints. -/
namespace VL
open PySem PySem.Spec PyProof.Rows L2 FL
/-- where k stands first -/
def idx (k : Int) : List Int → Option Nat
  | [] => none
  | a :: l => if a = k then some 0 else (idx k l).map (· + 1)
def asI1 : List D → Option Int
  | [.int k] => some k
  | _ => none
def gIndex (d : D) (ds : List D) : Option D := (intsD d).bind fun ns => (asI1 ds).bind fun k => (idx k ns).map fun j => .int (j : Nat)
def cIndex (fo : PEF) (fs : PAF) : PEF := fun σ => (fo σ).bind fun d => if lstD' d = true then (fs σ).bind fun ds => R.of (gIndex d ds) else .no
where lstD' : D → Bool
  | .lst _ => true
  | _ => false
section
variable {X : Cx} {W : WW} {o e : Expr} {es : List Expr} {fo : PEF} {fs : PAF} {apos cpos : Pos}
end
end VL
/-! VL: one statement at a time, with what it computes. -/
namespace VL
open PySem PySem.Spec PyProof.Rows L2 FL
section
variable {f g h : VS} {ω ω1 ω2 : Om} {nx ct bk : Om → Prop} {rt : O → Om → Prop} {i : Nat} {fe : EO} {c : EB} {o : O} {os : List O} {b : Bool}
theorem t_set (e : fe ω = .ok (o, ω1)) (s : ω1.set i (some o) = ω2) (k : W (g ω2) nx ct bk rt) : W (cSeq (cSet i fe) g ω) nx ct bk rt := w_seq (w_set (.ok e (by rw [s]; exact k)))
theorem t_set1 (e : fe ω = .ok (o, ω1)) (s : ω1.set i (some o) = ω2) (k : nx ω2) : W (cSet i fe ω) nx ct bk rt := w_set (.ok e (by rw [s]; exact k))
theorem t_nx (k : W (g ω) nx ct bk rt) : W (cSeq cNx g ω) nx ct bk rt := w_seq (w_nx k)
theorem t_ifT (e : c ω = .ok (true, ω1)) (k : W (cSeq f g ω1) nx ct bk rt) : W (cSeq (cIfS c f h) g ω) nx ct bk rt := w_seq (w_if (.ok e ⟨fun _ => by
  obtain ⟨k⟩ := k
  unfold cSeq at k
  refine ⟨?_⟩
  revert k
  cases f ω1 with
  | ok p =>
    obtain ⟨fl, w⟩ := p
    cases fl with
    | nx => exact fun k => ⟨k⟩
    | ct => exact id
    | bk => exact id
    | rt o => exact id
  | ex x => exact id
  | no => exact id, fun h => nomatch h⟩))
theorem t_ifF (e : c ω = .ok (false, ω1)) (k : W (cSeq h g ω1) nx ct bk rt) : W (cSeq (cIfS c f h) g ω) nx ct bk rt := w_seq (w_if (.ok e ⟨(fun h => nomatch h), fun _ => by
  obtain ⟨k⟩ := k
  unfold cSeq at k
  refine ⟨?_⟩
  revert k
  cases h ω1 with
  | ok p =>
    obtain ⟨fl, w⟩ := p
    cases fl with
    | nx => exact fun k => ⟨k⟩
    | ct => exact id
    | bk => exact id
    | rt o => exact id
  | ex x => exact id
  | no => exact id⟩))
theorem t_if1 (e : c ω = .ok (b, ω1)) (k1 : b = true → W (f ω1) nx ct bk rt) (k2 : b = false → W (h ω1) nx ct bk rt) : W (cIfS c f h ω) nx ct bk rt := w_if (.ok e ⟨k1, k2⟩)
theorem t_ret (e : fe ω = .ok (o, ω1)) (k : rt o ω1) : W (cRet fe ω) nx ct bk rt := w_ret (.ok e k)
theorem t_retS (e : fe ω = .ok (o, ω1)) (k : rt o ω1) : W (cSeq (cRet fe) g ω) nx ct bk rt := w_seq (w_ret (.ok e k))
theorem t_app (h0 : ω[i]? = some (some (.l os))) (e : fe ω = .ok (o, ω)) (l : os.length < 100000) (s : ω.set i (some (.l (os ++ [o]))) = ω2) (k : W (g ω2) nx ct bk rt) : W (cSeq (cApp i fe) g ω) nx ct bk rt :=
  w_seq (w_app h0 (.ok e ⟨os, h0, l, by rw [s]; exact k⟩))
theorem t_app1 (h0 : ω[i]? = some (some (.l os))) (e : fe ω = .ok (o, ω)) (l : os.length < 100000) (s : ω.set i (some (.l (os ++ [o]))) = ω2) (k : nx ω2) : W (cApp i fe ω) nx ct bk rt :=
  w_app h0 (.ok e ⟨os, h0, l, by rw [s]; exact k⟩)
/-- a draw in a slot -/
theorem t_draw {s : Int × Int} {n : Int} {j : Nat} {pe : PEF} {f : MFn} (h : ω[j]? = some (some (srcO s))) (hn : pe (viewD ω) = .ok (.int n)) (h0 : 0 < n) (h1 : n < 2 ^ 64) (hf : f = v_draw)
    (k : ∀ r s', 0 ≤ r → r < n → W (g ((ω.set j (some (srcO s'))).set i (some (.d (.int r))))) nx ct bk rt) : W (cSeq (cSet i (eoD (evO (eCallM f 2 [0] (erS j (erD (liD pe) erNil)))))) g ω) nx ct bk rt :=
  w_seq (w_set (x_eoD (x_evO (x_draw hf h hn h0 h1 fun r s' a b => k r s' a b))))
end
end VL
/-! VL: classes: their instances made, their fields read and stored, their methods called. -/
namespace VL
open PySem PySem.Spec PyProof.Rows L2 FL
/-! ### texts of defs, and how their parameters are bound -/
/-- n values are written, then keywords named ks; g puts them in the parameters' order -/
def Bk (K : Frg) (d : Dx) (ps : List Str) (n : Nat) (ks : List Str) (g : List D → List D → List D) : Prop := ∀ a fd, d.At K a fd → ∃ gU gV, KBn K fd ps n ks gU gV ∧
  ∀ F vs ds zs es, Reps K F vs ds → Reps K F zs es → Reps K F (gV vs zs) (g ds es)
section
variable {K : Frg} {name qual : Str} {params : Arguments} {body : List Stmt} {scope : Scope} {dvs : List V} {kws : List (Str × V)} {ps : List Str}
end
/-! ### a def of such a text -/
section
variable {P : Program} {w : World} {K : Frg} {mg : Str → Option Value} {a : Addr} {d : Dx}
theorem OkD.mono {j k : Nat} {ps : List Str} {sp : Sp} (O : OkD P w K mg j a d ps sp) (h : j ≤ k) : OkD P w K mg k a d ps sp := by
  obtain ⟨fd, F, G⟩ := O.ex
  exact ⟨fd, F, fun base => (G base).mono h⟩
end
/-! ### calls of pure defs -/
def cCallG (f : PFn) (n m l : Nat) (g : List D → List D → List D) (fs gs : PAF) : POF := fun σ => (fs σ).bind fun ds => (gs σ).bind fun es => if ds.length = n ∧ es.length = m ∧ (g ds es).length = l then (match f (g ds es) with
  | .ok o => .ok o
  | _ => .no) else .no
section
variable {X : Cx} {W : WW} {k n : Nat} {x : Str} {a : Addr} {d : Dx} {ps ks : List Str} {f : PFn} {p pos kpos : Pos} {e : Expr} {es : List Expr} {kw : List Keyword} {fs gs : PAF} {dds : List D}
theorem Out.fresh {K : Frg} {τ : L2.St} {F H F1 H1 : Hp} {r : R Exn O} {Q : VK} (s : PStep F H F1 H1) (k : Out K W τ F1 H1 r fun o F' H' => ∀ v B, Own K F' H' v o B → Fresh H B → Q v H') : Out K W τ F1 H1 r fun o F' H' => ∀ v B, Own K F' H' v o B → Fresh H1 B → Q v H' :=
  k.imp fun o F' H' _ k v B ow fr => k v B ow ⟨fr.1, fun b hb => s.gone (fr.2 b hb)⟩
end
end VL
/-! VL: instances. -/
namespace VL
open PySem PySem.Spec PyProof.Rows L2 FL
section
variable {K : Frg} {F H : Hp}
theorem RepF.look : ∀ {fvs : List (Str × V)} {fs : List (Str × D)} {f : Str} {d : D}, RepF K F fvs fs → fs.lookup f = some d → ∃ v, fvs.lookup f = some v ∧ Rep K F v d
  | _, _, f, _, .nil, e => by cases e
  | (g, v) :: fvs, (_, d0) :: fs, f, d, .cons q r, e => by
    have e2 : (match f == g with | true => some d0 | false => fs.lookup f) = some d := e
    show ∃ v', (match f == g with | true => some v | false => fvs.lookup f) = some v' ∧ _
    cases h : f == g with
    | true =>
      rw [h] at e2
      cases e2
      exact ⟨v, rfl, q⟩
    | false =>
      rw [h] at e2
      exact RepF.look r e2
end
/-! ### classes as values -/
section
variable {X : Cx} {W : WW}
/-! ### fields read -/
def fldD (cs : List Str) (f : Str) : D → Option D
  | .obj c fs => if cs.contains c = true then fs.lookup f else none
  | _ => none
def cFld (cs : List Str) (f : Str) (fo : PEF) : PEF := fun σ => (fo σ).bind fun d => R.of (fldD cs f d)
/-! ### a method called: the class tells which def -/
def methD (m : Str) (tb : MTab) : D → Option (PFn × List D)
  | .obj c fs => if (fs.lookup m).isNone = true then tb.lookup c else none
  | _ => none
def cMeth (m : Str) (n : Nat) (tb : MTab) (fo : PEF) (fs : PAF) : POF := fun σ => (fo σ).bind fun d => (R.of (methD m tb d)).bind fun q => (fs σ).bind fun ds => if ds.length = n then (match q.1 (d :: (ds ++ q.2)) with
  | .ok o => .ok o
  | _ => .no) else .no
section
variable {k n : Nat} {m : Str} {tb : MTab} {o e : Expr} {es : List Expr} {fo : PEF} {fs : PAF} {pos apos : Pos} {pl : Sem Bool}
end
end
end VL
/-! VL: instances made; fields stored. -/
namespace VL
open PySem PySem.Spec PyProof.Rows L2 FL
/-! ### self.f = e -/
def putQ (f : Str) (o : O) : List (Str × O) → List (Str × O)
  | [] => [(f, o)]
  | (g, x) :: r => if g = f then (g, o) :: r else (g, x) :: putQ f o r
theorem OwnF.put {K : Frg} {F H : Hp} {f : Str} {v : V} {o : O} {C : List Addr} (ow : Own K F H v o C) : ∀ {fvs : List (Str × V)} {fs : List (Str × O)} {B : List Addr}, OwnF K F H fvs fs B →
    ∃ B', OwnF K F H (putF f v fvs) (putQ f o fs) B' ∧ (∀ b ∈ B', b ∈ B ++ C) ∧ ((B ++ C).Nodup → B'.Nodup)
  | _, _, _, .nil => ⟨C ++ [], by unfold putF putQ; exact .cons ow .nil, by simp, by simp⟩
  | (g, v0) :: fvs, (_, o0) :: fs, _, .cons (B := B) (C := B2) q r => by
    by_cases h : g = f
    · refine ⟨C ++ B2, ?_, fun b hb => ?_, fun nd => ?_⟩
      · show OwnF K F H (if g = f then _ else _) (if g = f then _ else _) _
        rw [if_pos h, if_pos h]
        exact .cons ow r
      · rcases List.mem_append.mp hb with z | z
        · exact List.mem_append_right _ z
        · exact List.mem_append_left _ (List.mem_append_right _ z)
      · have n1 := List.nodup_append.mp nd
        have n2 := List.nodup_append.mp n1.1
        exact nodup_join n1.2.1 n2.2.1 fun b hb h2 => n1.2.2 b (List.mem_append_right _ h2) b hb rfl
    · obtain ⟨B', h1, h2, h3⟩ := OwnF.put ow r
      refine ⟨B ++ B', ?_, fun b hb => ?_, fun nd => ?_⟩
      · show OwnF K F H (if g = f then _ else _) (if g = f then _ else _) _
        rw [if_neg h, if_neg h]
        exact .cons q h1
      · rcases List.mem_append.mp hb with z | z
        · exact List.mem_append_left _ (List.mem_append_left _ z)
        · rcases List.mem_append.mp (h2 b z) with y | y
          · exact List.mem_append_left _ (List.mem_append_right _ y)
          · exact List.mem_append_right _ y
      · rw [List.append_assoc] at nd
        have n1 := List.nodup_append.mp nd
        exact nodup_join n1.1 (h3 n1.2.1) fun b hb hb2 => n1.2.2 b hb b (h2 b hb2) rfl
def cFldS (i : Nat) (c f : Str) (fe : EO) : VS := fun ω => bnd (fe ω) fun o ω => match ω[i]? with
  | some (some (.i c' fs)) => if c' = c ∧ fs.length < 1000 then .ok (.nx, ω.set i (some (.i c' (putQ f o fs)))) else .no
  | _ => .no
section
variable {X : Cx} {W : WW} {P : List Nat}
end
end VL
/-! VL: instances made. -/
namespace VL
open PySem PySem.Spec PyProof.Rows L2 FL
/-- what __init__ leaves of a new instance -/
def madeR (c : Str) (f : MFn) (ds : List D) : R Exn O := match f (.i c [] :: ds.map .d) with
  | .ok (.d .non, [o]) => .ok o
  | _ => .no
def cMake (c : Str) (f : MFn) (l : Nat) (dds : List D) (fs : PAF) : POF := fun σ => (fs σ).bind fun ds => if (ds ++ dds).length = l then madeR c f (ds ++ dds) else .no
def cMakeK (c : Str) (f : MFn) (n m l : Nat) (g : List D → List D → List D) (fs gs : PAF) : POF := fun σ => (fs σ).bind fun ds => (gs σ).bind fun es => if ds.length = n ∧ es.length = m ∧ (g ds es).length = l then madeR c f (g ds es) else .no
section
variable {X : Cx} {W : WW} {k n : Nat} {x c : Str} {a : Addr} {d : Dx} {ps ks : List Str} {f : MFn} {p pos kpos : Pos} {e : Expr} {es : List Expr} {kw : List Keyword} {fs gs : PAF} {dds : List D}
theorem VStep.made {F H F' H' : Hp} {A' : List Addr} {x dx : Addr} {C : Addr} (sub : Sub F H) (hx : H x = none) (hdx : H dx = none) (ne : dx ≠ x) (s : VStep F [x] (upd (upd H dx (.own x)) x (.ins C dx [])) F' A' H') (s2 : Sub F' H') : PStep F H F' H' ∧ ∀ b ∈ A', H b = none := by
  have up : ∀ b w, H b = some w → (upd (upd H dx (.own x)) x (.ins C dx [])) b = some w := fun b w h => by
    rw [upd_ne (ne_of_none h hx), upd_ne (ne_of_none h hdx)]; exact h
  have dn : ∀ b, (upd (upd H dx (.own x)) x (.ins C dx [])) b = none → H b = none := fun b h => by
    cases q : H b with
    | none => rfl
    | some w => rw [up b w q] at h; cases h
  refine ⟨⟨s.fsub, fun b o h => ?_, fun b o h => s.keep b o (up b o h) fun z => ?_, s2⟩, fun b hb => ?_⟩
  · rcases s.fnew b o h with z | z | z
    · exact .inl z
    · rw [List.mem_singleton.mp z]; exact .inr hx
    · exact .inr (dn b z)
  · rw [List.mem_singleton.mp z, hx] at h; cases h
  · rcases s.anew b hb with z | z
    · rw [List.mem_singleton.mp z]; exact hx
    · exact dn b z
/-- as Bk, with the instance ahead -/
def Bi (K : Frg) (d : Dx) (ps : List Str) (n : Nat) (ks : List Str) (g : List D → List D → List D) : Prop := ∀ a fd, d.At K a fd → ∃ gU gV, KBn K fd ps (n + 1) ks gU gV ∧
  ∀ F x vs ds zs es, Reps K F vs ds → Reps K F zs es → ∃ ws, gV (x :: vs) zs = x :: ws ∧ Reps K F ws (g ds es)
end
section
variable {K : Frg} {name qual : Str} {params : Arguments} {body : List Stmt} {scope : Scope} {dvs : List V} {kws : List (Str × V)} {ps : List Str}
end
/-! ### isinstance -/
def look2 {α : Type} [BEq α] (l : List (α × Str × Bool)) (a : α) (b : Str) : Option Bool := (l.find? fun q => q.1 == a && q.2.1 == b).map (·.2.2)
def isD (T : IsTab) (x c : D) : Option Bool := match x, c with
  | .obj a _, .glob b => look2 T.own a b
  | .non, .glob b => look2 T.ty "NoneType" b
  | .bl _, .glob b => look2 T.ty "bool" b
  | .int _, .glob b => look2 T.ty "int" b
  | .str _, .glob b => look2 T.ty "str" b
  | .lst _, .glob b => look2 T.ty "list" b
  | .tup _, .glob b => look2 T.ty "tuple" b
  | _, _ => none
def gIsO (T : IsTab) : GL := g2 fun d e => (isD T d e).map fun b => .d (.bl b)
/-- both kinds -/
def gIsA (T : IsTab) : GL := gOr gIsi (gIsO T)
end VL
/-! VL: the head's facts of classes; reckoning with instances. -/
namespace VL
open PySem PySem.Spec PyProof.Rows L2 FL
/-! ### the head with one more Bool -/
def obsV (n : Nat) (fa : List He.Fa) (fn : List He.DefD) (ex : Frg → Bool) (g : Addr → Option Obj) : AlV := (He.obsD fa fn (He.frG g (He.asD g n)), ex (He.frG g (He.asD g n)))
def hookV (n : Nat) (fa : List He.Fa) (fn : List He.DefD) (ex : Frg → Bool) : PySem.W.Hook where
  α := AlV
  obs := fun s => obsV n fa fn ex s.heap.get?
  val := fun _ => (He.valD fn, true)
  says := fun _ h => ∃ K : PySem.W.Frag, K.In h ∧ He.SaysD fa fn K ∧ ex K = true
  of := fun _ _ e => ⟨_, He.frG_in, congrArg (fun z : AlV => z.1) e, congrArg (fun z : AlV => z.2) e⟩
  keeps := fun _ _ _ ⟨K, hK, c⟩ k => ⟨K, PySem.W.Frag.In.keeps hK k, c⟩
/-! ### what isinstance needs -/
def IsTab.okB (T : IsTab) (K : Frg) : Bool := (T.own.all fun q => insB K q.1 && eqOB (PySem.W.kitOne K (.ref (He.ga K q.1)) (.ref (He.ga K q.2.1))) (some q.2.2)) && T.ty.all fun q => eqOB (PySem.W.kitOne K (.type q.1) (.ref (He.ga K q.2.1))) (some q.2.2)
/-! ### lists of facts -/
/-! ### reckoning -/
section
variable {σ : Sg} {fo : PEF} {fs gs : PAF} {d : D} {ds es : List D} {cs : List Str} {f m c : Str} {n l k : Nat} {tb : MTab} {mf : MFn} {dds : List D} {pf : PFn} {g : List D → List D → List D}
def fldR (cs : List Str) (f : Str) (x : R Exn D) : R Exn D := x.bind fun d => R.of (fldD cs f d)
@[simp] theorem cFld_ap : cFld cs f fo σ = fldR cs f (fo σ) := (rfl)
def methR (m : Str) (n : Nat) (tb : MTab) (x : R Exn D) (y : R Exn (List D)) : R Exn O := x.bind fun d => (R.of (methD m tb d)).bind fun q => y.bind fun ds => if ds.length = n then okR (q.1 (d :: (ds ++ q.2))) else .no
@[simp] theorem cMeth_ap : cMeth m n tb fo fs σ = methR m n tb (fo σ) (fs σ) := by
  unfold cMeth methR
  congr 1; funext d; congr 1; funext q; congr 1; funext ds
  split
  · cases q.1 (d :: (ds ++ q.2)) <;> rfl
  · rfl
def makeR (c : Str) (f : MFn) (l : Nat) (dds : List D) (x : R Exn (List D)) : R Exn O := x.bind fun ds => if (ds ++ dds).length = l then madeR c f (ds ++ dds) else .no
@[simp] theorem cMake_ap : cMake c mf l dds fs σ = makeR c mf l dds (fs σ) := (rfl)
def makeKR (c : Str) (f : MFn) (n m l : Nat) (g : List D → List D → List D) (x y : R Exn (List D)) : R Exn O := x.bind fun ds => y.bind fun es => if ds.length = n ∧ es.length = m ∧ (g ds es).length = l then madeR c f (g ds es) else .no
@[simp] theorem cMakeK_ap {m : Nat} : cMakeK c mf n m l g fs gs σ = makeKR c mf n m l g (fs σ) (gs σ) := (rfl)
def callGR (f : PFn) (n m l : Nat) (g : List D → List D → List D) (x y : R Exn (List D)) : R Exn O := x.bind fun ds => y.bind fun es => if ds.length = n ∧ es.length = m ∧ (g ds es).length = l then okR (f (g ds es)) else .no
@[simp] theorem cCallG_ap {m : Nat} : cCallG pf n m l g fs gs σ = callGR pf n m l g (fs σ) (gs σ) := by
  unfold cCallG callGR
  congr 1; funext ds; congr 1; funext es
  split
  · cases pf (g ds es) <;> rfl
  · rfl
end
section
variable {ω : Om} {i : Nat} {c f : Str} {fe : EO} {os : List (Str × O)} {o : O}
@[simp] theorem frz_i : frz (.i c os) = .obj c (frzF os) := by unfold frz; rfl
@[simp] theorem frzF_n : frzF [] = [] := by unfold frzF; rfl
@[simp] theorem frzF_c : frzF ((f, o) :: os) = (f, frz o) :: frzF os := by rw [frzF]
@[simp] theorem flatO_i : flatO (.i c os) = flatOF os := by unfold flatO; rfl
@[simp] theorem flatOF_n : flatOF [] = true := by unfold flatOF; rfl
@[simp] theorem flatOF_c : flatOF ((f, o) :: os) = (flatO o && flatOF os) := by rw [flatOF]
@[simp] theorem viewD_i : viewD (some (.i c os) :: ω) = none :: viewD ω := (rfl)
def fldK (i : Nat) (c f : Str) (p : RX O) : RX Fl := bnd p fun o ω => match ω[i]? with
  | some (some (.i c' fs)) => if c' = c ∧ fs.length < 1000 then .ok (.nx, ω.set i (some (.i c' (putQ f o fs)))) else .no
  | _ => .no
@[simp] theorem cFldS_ap : cFldS i c f fe ω = fldK i c f (fe ω) := (rfl)
end
end VL
/-! VL: stepping through expressions that draw. -/
namespace VL
open PySem PySem.Spec PyProof.Rows L2 FL
section
variable {f g h : VS} {ω : Om} {nx ct bk : Om → Prop} {rt : O → Om → Prop} {i : Nat} {fe : EO} {c : EB} {fa fb fc : EV} {op : G2} {Q : D → Om → Prop} {QO : O → Om → Prop} {QB : Bool → Om → Prop} {pe pe' : PEF}
theorem w_setN (k : WX (fe ω) fun o ω1 => ∀ ω2, ω1.set i (some o) = ω2 → nx ω2) : W (cSet i fe ω) nx ct bk rt := w_set (k.imp fun o ω1 q => q _ rfl)
theorem x_drawN {s : Int × Int} {n : Int} {f : MFn} (hf : f = v_draw) (h : ω[i]? = some (some (srcO s))) (hn : pe (viewD ω) = .ok (.int n)) (h0 : 0 < n) (h1 : n < 2 ^ 64) (q : ∀ r s' ω2, 0 ≤ r → r < n → ω.set i (some (srcO s')) = ω2 → QO (.d (.int r)) ω2) : WX (eCallM f 2 [0] (erS i (erD (liD pe) erNil)) ω) QO :=
  x_draw hf h hn h0 h1 fun r s' a b => q r s' _ a b rfl
theorem x_mv {o : O} (h : ω[i]? = some (some o)) (k : ∀ ω2, ω.set i none = ω2 → QO o ω2) : WX (cMv i ω) QO := by
  refine WX.ok (a := o) (ω := ω.set i none) ?_ (k _ rfl)
  unfold cMv
  rw [h]
theorem w_appN {os : List O} (h0 : ω[i]? = some (some (.l os))) (hl : os.length < 100000) (k : WX (fe ω) fun o ω1 => ω1[i]? = some (some (.l os)) ∧ ∀ ω2, ω1.set i (some (.l (os ++ [o]))) = ω2 → nx ω2) : W (cApp i fe ω) nx ct bk rt :=
  w_app h0 (k.imp fun o ω1 ⟨h, q⟩ => ⟨os, h, hl, q _ rfl⟩)
theorem x_erN {Q : List Ar → Om → Prop} (h : Q [] ω) : WX (erNil ω) Q := .r h
theorem x_erD {er : ErF} {Q : List Ar → Om → Prop} (h : WX (fa ω) fun d ω => WX (er ω) fun as ω => Q (.d d :: as) ω) : WX (erD fa er ω) Q := WX.bnd (h.imp fun d ω h => WX.bnd (h.imp fun _ _ z => .r z))
theorem x_erO {er : ErF} {Q : List Ar → Om → Prop} (h : WX (fe ω) fun d ω => WX (er ω) fun as ω => Q (.o d :: as) ω) : WX (erO fe er ω) Q := WX.bnd (h.imp fun d ω h => WX.bnd (h.imp fun _ _ z => .r z))
theorem x_erS {er : ErF} {o : O} {Q : List Ar → Om → Prop} (h0 : ω[i]? = some (some o)) (h : WX (er ω) fun as ω => Q (.s i :: as) ω) : WX (erS i er ω) Q := by
  unfold erS
  simp only [h0]
  exact WX.bnd (h.imp fun _ _ z => .r z)
theorem x_callX {f : MFn} {m : Nat} {P : List Nat} {er : ErF} (h : WX (er ω) fun as ω1 => ∃ os ω2, takeA as ω1 = some (os, ω2) ∧ os.length = m ∧ ∃ o ps, f os = .ok (o, ps) ∧ ∀ ω3, putA as P ps ω2 = ω3 → QO o ω3) : WX (eCallM f m P er ω) QO := by
  refine WX.bnd (h.imp fun as ω1 ⟨os, ω2, h1, hl, o, ps, e, q⟩ => ?_)
  simp only [h1, if_pos hl, e]
  exact .r (q _ rfl)
end
end VL
/-! VL: an own exception's __init__ that says super().__init__(..). -/
namespace L2
open PySem PySem.Spec PyProof.Rows PySem.W
/-- the context of a def that closes over __class__ -/
def cxS (CX : CXT) (P : Program) (w : World) (K : PySem.W.Frag) (mg : Str → Option Value) (base : Heap) (N : List Str) (qual : Str) (scope : Scope) (cc f : Addr) (cd : Value) (A : Around) (outer : List Env) (s : Shared) (H : Hp) (E : XK) : Cx where
  prog := P
  w := w
  K := K
  mg := mg
  base := base
  A := A.deeper (ksEnv qual scope s.heap.objs.size f cd cc)
  N := N
  s_0 := s
  H_0 := H
  env := ksEnv qual scope s.heap.objs.size f cd cc
  outer := outer
  stack := ksEnv qual scope s.heap.objs.size f cd cc :: outer
  ex := []
  calm := true
  fn := fun x => x != "__class__"
  pn := []
  xe := fun e s' => wpAny (model P w) (A.deeper (ksEnv qual scope s.heap.objs.size f cd cc)) (leaving (ksEnv qual scope s.heap.objs.size f cd cc) e) (fun _ s'' => CX outer H s E e s'') (fun e' s'' => CX outer H s E e' s'') s'
structure SupScope (N P : List Str) (sc : Scope) : Prop where
  kind : sc.kind = .function
  co : sc.isCoroutine = false
  gen : sc.isGenerator = false
  nd : N.Nodup
  pre : N.take P.length = P
  par : ∀ x ∈ P, sc.names.lookup x = some .local
  nocell : ∀ y ∈ sc.names, y.2 ≠ .cell
  free : ∀ y ∈ sc.names, y.2 = .free → y.1 = "__class__"
/-! ### ValueError.__init__ bound to an instance, called -/
section
variable {prog : Program} {w : World} {A : Around} {E : Value → Shared → Prop} {h : Heap} {g : Array GenState} {d : Drawn} {t : Nat} {os : OsState}
variable {nm q : Str} {C N : Addr} {bs bm : List Value} {hdct : Bool} {sn : List Str} {sub : List Value} {ab : Bool} {col : Option Bool} {dd : Option Addr} {k0 k1 k2 k3 k5 : Option Value}
end
end L2
/-! VL: an own exception's __init__ that says super().__init__(..): the rule. -/
namespace L2
open PySem PySem.Spec PyProof.Rows PySem.W
end L2
/-! VL: own exceptions made: their fields from the arguments. -/
namespace VL
open PySem PySem.Spec PyProof.Rows L2 FL
abbrev XInit := List D → Option (List (Str × D))
/-- the heap without the exception and its dict -/
def hid (H : Hp) (a : Addr) (dd : Option Addr) : Hp := open Classical in fun b => if b = a ∨ dd = some b then none else H b
theorem hid_ne {H : Hp} {a b : Addr} {dd : Option Addr} (h1 : b ≠ a) (h2 : dd ≠ some b) : hid H a dd b = H b := if_neg fun z => z.elim h1 h2
theorem hid_a {H : Hp} {a : Addr} {dd : Option Addr} : hid H a dd a = none := if_pos (.inl rfl)
theorem hid_d {H : Hp} {a d : Addr} : hid H a (some d) d = none := if_pos (.inr rfl)
structure InSt (K : Frg) (C a : Addr) (F H : Hp) (acc : List (Str × D)) (dd : Option Addr) (fvs : List (Str × V)) : Prop where
  sub : Sub F H
  ex : H a = some (exo a C dd)
  fa : F a = none
  dn : dd = none → fvs = []
  dx : ∀ d, dd = some d → H d = some (exd d fvs) ∧ F d = none ∧ d ≠ a
  rf : RepF K F fvs acc
  le : fvs.length ≤ 900
theorem InSt.hsub {K : Frg} {C a : Addr} {F H : Hp} {acc : List (Str × D)} {dd : Option Addr} {fvs : List (Str × V)} (i : InSt K C a F H acc dd fvs) : Sub F (hid H a dd) := fun b o h => by
  rw [hid_ne (ne_of_none h i.fa) fun z => by have := (i.dx b z).2.1; rw [this] at h; cases h]
  exact i.sub b o h
/-- behind an expression -/
theorem InSt.step {K : Frg} {C a : Addr} {F H F' H' : Hp} {acc : List (Str × D)} {dd : Option Addr} {fvs : List (Str × V)} (i : InSt K C a F H acc dd fvs) (s : PStep F H F' H') : InSt K C a F' H' acc dd fvs ∧ PStep F (hid H a dd) F' (hid H' a dd) := by
  have nf : ∀ b u, F b = none → H b = some u → F' b = none := fun b u h1 h2 => by
    cases q : F' b with
    | none => rfl
    | some w =>
      rcases s.fnew b w q with z | z
      · rw [h1] at z; cases z
      · rw [h2] at z; cases z
  have i' : InSt K C a F' H' acc dd fvs := ⟨s.sub, s.hsub _ _ i.ex, nf _ _ i.fa i.ex, i.dn, fun d hd => ⟨s.hsub _ _ (i.dx d hd).1, nf _ _ (i.dx d hd).2.1 (i.dx d hd).1, (i.dx d hd).2.2⟩, i.rf.mono s.fsub, i.le⟩
  refine ⟨i', s.fsub, fun b o h => ?_, fun b o h => ?_, i'.hsub⟩
  · rcases s.fnew b o h with z | z
    · exact .inl z
    · right
      unfold hid
      split
      · rfl
      · exact z
  · have h1 : b ≠ a := fun z => by rw [z, hid_a] at h; cases h
    have h2 : dd ≠ some b := fun z => by rw [z, hid_d] at h; cases h
    rw [hid_ne h1 h2] at h ⊢
    exact s.hsub b o h
def evalI : List (Str × POF) → Sg → List (Str × D) → Option (List (Str × D))
  | [], _, acc => some acc
  | (f, g) :: r, σ, acc => match g σ with
    | .ok o => if acc.length ≤ 800 then evalI r σ ((f, frz o) :: acc) else none
    | _ => none
def tI (K : Frg) (C : Addr) (gs : List (Str × POF)) : TS := fun D τ H => ∃ F σ a dd fvs acc, SlD K F σ τ ∧ τ[0]? = some (some (.ref a)) ∧ InSt K C a F H acc dd fvs ∧ ∃ fs, evalI gs σ acc = some fs ∧
  ∀ F' H' dd' fvs', PStep F (hid H a dd) F' (hid H' a dd') → InSt K C a F' H' fs dd' fvs' → (∀ d, dd' = some d → dd = some d ∨ H d = none) → D.nx τ H'
def SI (X : Cx) (C : Addr) (sts : List Stmt) (gs : List (Str × POF)) : Prop := PSs X sts (tI X.K C gs)
section
variable {X : Cx} {W : WW} {C : Addr}
end
/-- C's __init__: n arguments; what the fields are -/
def spI (K : Frg) (C : Addr) (n : Nat) (g : XInit) : Sp := fun vs H Q _ => ∃ F ds a rest, vs = .ref a :: rest ∧ Reps K F rest ds ∧ ds.length = n ∧ InSt K C a F H [] none [] ∧ ∃ fs, g ds = some fs ∧
  ∀ F' H' d fvs, PStep F (hid H a none) F' (hid H' a (some d)) → InSt K C a F' H' fs (some d) fvs → H d = none → Q .non H'
def xinit (n : Nat) (fa : PAF) (gs : List (Str × POF)) : XInit := fun ds => match fa (none :: (ds.map some ++ List.replicate (n - 1 - ds.length) none)) with
  | .ok ws => if ws.length ≤ 1000 ∧ gs ≠ [] then evalI gs (none :: (ds.map some ++ List.replicate (n - 1 - ds.length) none)) [] else none
  | _ => none
end VL
/-! VL: own exceptions: the written part's facts, the rule of __init__, raise. -/
namespace VL
open PySem PySem.Spec PyProof.Rows L2 FL
structure SupOk (P : Program) (K : Frg) (mg : Str → Option Value) (c : Str) (d : Sx) : Prop where
  fn : ∃ fI oc od kV doc pm an cda ct cc osl ccl cdd vs0 ccs file tf cl cld csl, PySem.W.findIn K (.ref (He.ga K c)) "__init__" = some (some (.ref fI)) ∧ PySem.W.typeIn K (.ref fI) = some (.type "function") ∧
    K.lookup fI = some ⟨oc, od, .func (PySem.W.ksFn d.name d.qual d.params d.body d.scope .none kV doc pm an (.ref cda) ct cc), osl⟩ ∧ PySem.W.codeIn K (.ref cda) d.qual = true ∧
    K.lookup cda = some ⟨ccl, cdd, .fields vs0, ccs⟩ ∧ vs0[2]? = some (.str file tf) ∧ ((P.main.file : Str) == file) = true ∧ K.lookup cc = some ⟨cl, cld, .cell (some (.ref (He.ga K c))), csl⟩
  T : OexC K (He.ga K c)
  sub : PySem.W.mroIn K (He.ga K c) (.ref (He.ga K c)) = some true
  sup : mg "super" = none
  ano : PySem.W.nsIn K cStatics "thirdparty.any" = some none
  m : PySem.W.ks_superIn K (He.ga K c) (He.ga K c) "__init__" = some (some (.builtin "ValueError.__init__"))
  b : PySem.W.subIn K (.ref (He.ga K c)) (.type "ValueError") = some true
/-- C's __init__ keeps g -/
structure OkI (P : Program) (w : World) (K : Frg) (mg : Str → Option Value) (k : Nat) (c : Str) (ps : List Str) (n : Nat) (g : XInit) : Prop where
  ex : ∃ fI fd, PySem.W.findIn K (.ref (He.ga K c)) "__init__" = some (some (.ref fI)) ∧ PySem.W.typeIn K (.ref fI) = some (.type "function") ∧ Binds K fd ps [] ∧ ∀ (CX : CXT) (base : Heap), FnOk P w K mg base CX k fI fd ps (spI K (He.ga K c) n g)
  T : OexC K (He.ga K c)
end VL
/-! VL: raise; defs that may raise; instances whose __init__ may raise. -/
namespace L2
open PySem PySem.Spec PyProof.Rows
section
variable {X : Cx} {CX : CXT} {k n : Nat} {f C : Addr} {fd : FuncData} {ps ks : List Str} {sp : Sp} {E : St → XK} {x m : Str} {p pos apos : Pos} {e o : Expr} {es : List Expr} {kws : List Keyword} {ta : TE} {t tk : TA} {dvs : List V} {ds : List Value} {g : List Value → List Value → List Value} {gV : List V → List V → List V}
def tMakeS (C : Addr) (sp : Sp) (dvs : List V) (E : St → XK) (t : TA) : TE := fun σ H Q => t σ H fun vs H1 => ∀ x dx, H1 x = none → H1 dx = none → dx ≠ x →
  sp (.ref x :: (vs ++ dvs)) (upd (upd H1 dx (.own x)) x (.ins C dx [])) (fun v H2 => v = .non ∧ Q (.ref x) H2) (E σ)
def tMakeKS (C : Addr) (n m : Nat) (sp : Sp) (gV : List V → List V → List V) (E : St → XK) (t tk : TA) : TE := fun σ H Q => t σ H fun vs H1 => tk σ H1 fun zs H2 => vs.length = n ∧ zs.length = m ∧ ∀ x dx, H2 x = none → H2 dx = none → dx ≠ x →
  sp (gV (.ref x :: vs) zs) (upd (upd H2 dx (.own x)) x (.ins C dx [])) (fun v H3 => v = .non ∧ Q (.ref x) H3) (E σ)
end
end L2
namespace VL
open PySem PySem.Spec PyProof.Rows L2 FL
/-! ### raise C(e, ..) -/
def cRaise (c : Str) (n : Nat) (g : XInit) (fs : EAF) : VS := fun ω => bnd (fs ω) fun ds ω => if ds.length = n then (match g ds with
  | some fl => .ex (⟨c, fl⟩, ω)
  | none => .no) else .no
section
variable {X : Cx} {W : WW} {P : List Nat} {k n : Nat} {x c : Str} {ps : List Str} {g : XInit} {p pos pos' : Pos} {e : Expr} {es : List Expr} {fs : EAF}
end
/-! ### defs that may raise -/
def spPX (K : Frg) (n : Nat) (f : PFn) : Sp := fun vs H Q E => ∃ F ds, Sub F H ∧ Reps K F vs ds ∧ ds.length = n ∧ match f ds with
  | .ok o => ∀ F' H' v B, PStep F H F' H' → Own K F' H' v o B → Fresh H B → Q v H'
  | .ex x => ∀ F' H' cls dx, PStep F H F' H' → ExR K F' H' cls dx x → E cls dx H'
  | .no => False
def spMX (K : Frg) (n : Nat) (P : List Nat) (f : MFn) : Sp := fun vs H Q E => ∃ F A os, Sub F H ∧ Owns K F H vs os A ∧ A.Nodup ∧ os.length = n ∧ match f os with
  | .ok (o, ps) => ∀ F' A' B H' v us, VStep F A H F' (B ++ A') H' → Sub F' H' → Paired (fun p u => vs[p]? = some u) P us → Owns K F' H' us ps A' → Own K F' H' v o B → (B ++ A').Nodup → Q v H'
  | .ex x => ∀ F' A' H' cls dx, VStep F A H F' A' H' → Sub F' H' → ExR K F' H' cls dx x → E cls dx H'
  | .no => False
structure OkX (P : Program) (w : World) (K : Frg) (mg : Str → Option Value) (k : Nat) (a : Addr) (d : Dx) (ps : List Str) (sp : Sp) : Prop where
  ex : ∃ fd, d.At K a fd ∧ ∀ base : Heap, FnOk P w K mg base (L2.CX P w) k a fd ps sp
theorem OkX.mono {P : Program} {w : World} {K : Frg} {mg : Str → Option Value} {a : Addr} {d : Dx} {j k : Nat} {ps : List Str} {sp : Sp} (O : OkX P w K mg j a d ps sp) (h : j ≤ k) : OkX P w K mg k a d ps sp := by
  obtain ⟨fd, F, G⟩ := O.ex
  exact ⟨fd, F, fun base => (G base).mono h⟩
section
variable {P : Program} {w : World} {K : Frg} {mg : Str → Option Value} {a : Addr} {d : Dx}
end
/-! ### their calls -/
def madeX (c : Str) (f : MFn) (ds : List D) : R Exn O := match f (.i c [] :: ds.map .d) with
  | .ok (.d .non, [o]) => .ok o
  | .ex x => .ex x
  | _ => .no
def cMakeX (c : Str) (f : MFn) (l : Nat) (dds : List D) (fs : PAF) : POF := fun σ => (fs σ).bind fun ds => if (ds ++ dds).length = l then madeX c f (ds ++ dds) else .no
def cMakeKX (c : Str) (f : MFn) (n m l : Nat) (g : List D → List D → List D) (fs gs : PAF) : POF := fun σ => (fs σ).bind fun ds => (gs σ).bind fun es => if ds.length = n ∧ es.length = m ∧ (g ds es).length = l then madeX c f (g ds es) else .no
def cCallX (f : PFn) (l : Nat) (dds : List D) (fs : PAF) : POF := fun σ => (fs σ).bind fun ds => if (ds ++ dds).length = l then f (ds ++ dds) else .no
section
variable {X : Cx} {W : WW} {k n : Nat} {x c : Str} {a : Addr} {d : Dx} {ps ks : List Str} {f : MFn} {pf : PFn} {p pos kpos : Pos} {e : Expr} {es : List Expr} {kw : List Keyword} {fs gs : PAF} {dds : List D}
end
end VL
/-! VL: isinstance of a caught exception that has a dict. -/
namespace PySem.W
open PySem PySem.Spec PySem.Calls PyProof.Rows
section
variable {prog : Program} {w : World} {A : Around} {E : Value → Shared → Prop} {s : Shared} {K : Frag} {x D : Addr} {ox : Obj} {odx : Option Obj}
end
end PySem.W
namespace L2
open PySem PySem.Spec PyProof.Rows
/-- isinstance(e, c), e the exception that the suite holds; its dict, if it has one, is known -/
def rIsX (K : PySem.W.Frag) (D a : Addr) (dd : Option Addr) : List V → Hp → VK → Prop := fun xs H Q => ∃ (c : V) (cv : Value) (b : Bool), xs = [.ref a, c] ∧ (∀ u, RelV c u → u = cv) ∧ PySem.W.kitOne K (.ref D) cv = some b ∧ (dd = none ∨ ∃ d fs, dd = some d ∧ H d = some (.xd fs)) ∧ Q (.bl b) H
end L2
/-! VL: try: .. except C as e: .. -/
namespace VL
open PySem PySem.Spec PyProof.Rows L2 FL
/-- the slot i holds the exception at a, which is x -/
structure Hx (K : Frg) (i : Nat) (a : Addr) (cls : Value) (dx : Option Addr) (x : Exn) (τ : L2.St) (F H : Hp) : Prop where
  at_ : τ[i]? = some (some (.ref a))
  ex : ExR K F H cls dx x
theorem Hx.step {K : Frg} {i : Nat} {a : Addr} {cls : Value} {dx : Option Addr} {x : Exn} {τ : L2.St} {F H F' H' : Hp} (h : Hx K i a cls dx x τ F H) (s : PStep F H F' H') : Hx K i a cls dx x τ F' H' := by
  refine ⟨h.at_, h.ex.1, ?_⟩
  rcases h.ex.2 with ⟨e1, e2⟩ | ⟨d, fvs, e1, e2, e3⟩
  · exact .inl ⟨e1, e2⟩
  · exact .inr ⟨d, fvs, e1, s.hsub _ _ e2, e3.mono s.fsub⟩
/-! ### expressions of a suite, for the exception x -/
def tHE (K : Frg) (i : Nat) (a : Addr) (cls : Value) (dx : Option Addr) (x : Exn) (f : PEF) : TE := fun τ H Q => ∃ F σ, Sub F H ∧ SlD K F σ τ ∧ Hx K i a cls dx x τ F H ∧ Out K W0 τ F H (f σ) fun d F' H' => ∀ v, Rep K F' v d → Q v H'
def tHB (K : Frg) (i : Nat) (a : Addr) (cls : Value) (dx : Option Addr) (x : Exn) (f : PBF) : TT := fun τ H Q => ∃ F σ, Sub F H ∧ SlD K F σ τ ∧ Hx K i a cls dx x τ F H ∧ Out K W0 τ F H (f σ) fun b F' H' => Q b H'
section
variable {X : Cx} {i : Nat} {a : Addr} {cls : Value} {dx : Option Addr} {x : Exn} {pos : Pos}
/-- what is known of the exception in a suite -/
def HE (X : Cx) (i : Nat) (a : Addr) (cls : Value) (dx : Option Addr) (x : Exn) (e : Expr) (f : PEF) : Prop := PE X e (tHE X.K i a cls dx x f)
def HB (X : Cx) (i : Nat) (a : Addr) (cls : Value) (dx : Option Addr) (x : Exn) (e : Expr) (f : PBF) : Prop := PT X e (tHB X.K i a cls dx x f)
def HW (X : Cx) (i : Nat) (a : Addr) (cls : Value) (dx : Option Addr) (x : Exn) (e : Expr) (f : PBF) : Prop := PW X e (tHB X.K i a cls dx x f)
variable {e b : Expr} {fa fb : PEF}
variable {fA fB : PBF} {rest : List Expr}
/-! argument lists, tuples, calls of built-ins -/
def tHA (K : Frg) (i : Nat) (a : Addr) (cls : Value) (dx : Option Addr) (x : Exn) (f : PAF) : TA := fun τ H Q => ∃ F σ, Sub F H ∧ SlD K F σ τ ∧ Hx K i a cls dx x τ F H ∧ Out K W0 τ F H (f σ) fun ds F' H' => ∀ vs, Reps K F' vs ds → Q vs H'
def HEs (X : Cx) (i : Nat) (a : Addr) (cls : Value) (dx : Option Addr) (x : Exn) (es : List Expr) (f : PAF) : Prop := PA X es (tHA X.K i a cls dx x f)
variable {es : List Expr} {fs : PAF}
end
/-! ### the exception itself -/
/-- what isinstance(e, c) answers of own exceptions -/
abbrev ETab := List (Str × D × Bool)
def eLook (T : ETab) (c : Str) (d : D) : Option Bool := match d with
  | .glob n => (T.find? fun q => q.1 == c && (match q.2.1 with | .glob m => m == n | _ => false)).map (·.2.2)
  | .ty n => (T.find? fun q => q.1 == c && (match q.2.1 with | .ty m => m == n | _ => false)).map (·.2.2)
  | _ => none
def eVal (K : Frg) : D → Option Value
  | .glob n => some (.ref (He.ga K n))
  | .ty n => some (.type n)
  | _ => none
structure EOk (K : Frg) (T : ETab) : Prop where
  ok : ∀ q ∈ T, ExcC K (He.ga K q.1) ∧ ∃ cv, eVal K q.2.1 = some cv ∧ PySem.W.kitOne K (.ref (He.ga K q.1)) cv = some q.2.2
def cIsE (T : ETab) (x : Exn) (d : D) : PEF := fun _ => R.of ((eLook T x.c d).map .bl)
def cExF (cs : List Str) (f : Str) (x : Exn) : PEF := fun _ => R.of (if cs.contains x.c = true then x.fs.lookup f else none)
section
variable {X : Cx} {i : Nat} {a : Addr} {cls : Value} {dx : Option Addr} {x : Exn} {pos : Pos} {oe : Obj} {pn : List (Addr × Obj)}
end
end VL
/-! VL: the suite of an except clause; try. -/
namespace VL
open PySem PySem.Spec PyProof.Rows L2 FL
def tHS (K : Frg) (i : Nat) (a : Addr) (cls : Value) (dx : Option Addr) (x : Exn) (P : List Nat) (f : VS) : TS := fun D τ H => ∃ F A ω, VRel K F H A ω τ ∧ Hx K i a cls dx x τ F H ∧ VFin K W0 P τ F A H (f ω) D
def HS (X : Cx) (i : Nat) (a : Addr) (cls : Value) (dx : Option Addr) (x : Exn) (P : List Nat) (st : Stmt) (f : VS) : Prop := PS X st (tHS X.K i a cls dx x P f)
def HSs (X : Cx) (i : Nat) (a : Addr) (cls : Value) (dx : Option Addr) (x : Exn) (P : List Nat) (st : List Stmt) (f : VS) : Prop := PSs X st (tHS X.K i a cls dx x P f)
/-- an expression of a suite: it sees the data, its answer is data -/
def hRet (f : PEF) : VS := fun ω => match f (viewD ω) with
  | .ok d => .ok (.rt (.d d), ω)
  | _ => .no
def hIf (c : PBF) (f g : VS) : VS := fun ω => match c (viewD ω) with
  | .ok true => f ω
  | .ok false => g ω
  | _ => .no
section
variable {X : Cx} {i : Nat} {a : Addr} {cls : Value} {dx : Option Addr} {x : Exn} {P : List Nat} {pos : Pos}
end
/-! ### try -/
/-- which exceptions the clause catches -/
abbrev CTab := List (Str × Bool)
structure COk (K : Frg) (c : Value) (T : CTab) : Prop where
  ok : ∀ q ∈ T, PySem.W.exmOne K (.ref (He.ga K q.1)) c = some q.2
def fin1 (i : Nat) : RX Fl → RX Fl
  | .ok (.rt o, ω) => .ok (.rt o, ω)
  | .ok (fl, ω) => .ok (fl, ω.set i none)
  | _ => .no
def cTry (i : Nat) (T : CTab) (f : VS) (h : Exn → VS) : VS := fun ω => match f ω with
  | .ex (x, ω') => (match T.lookup x.c with
    | some true => if i < ω'.length then fin1 i (h x (ω'.set i none)) else .no
    | some false => .ex (x, ω')
    | none => .no)
  | r => r
section
variable {X : Cx} {W : WW} {P : List Nat} {i : Nat} {T : CTab} {fb : VS} {fh : Exn → VS} {n y : Str} {c : Value} {b0 : Stmt} {body suite : List Stmt} {np pos pos' : Pos}
end
end VL
/-! VL: exceptions: the head's facts, reckoning. -/
namespace VL
open PySem PySem.Spec PyProof.Rows L2 FL
/-! ### the head with exceptions' __init__ -/
theorem obsW_eq {n : Nat} {fa : List He.Fa} {fn : List He.DefD} {sn : List (Str × Sx)} {ex : Frg → Bool} {g : Addr → Option Obj} {s : Shared} (h : ∀ a, g a = s.heap.get? a) : obsW n fa fn sn ex g = (hookW n fa fn sn ex).obs s := by
  have e : g = s.heap.get? := funext h
  rw [e] <;> rfl
theorem SaysW.sup {fa : List He.Fa} {fn : List He.DefD} {sn : List (Str × Sx)} {ex : Frg → Bool} {K : Frg} (c : SaysW fa fn sn ex K) (i : Nat) {q : Str × Sx} (h : sn[i]? = some q := by rfl) : fnS K q.1 = q.2.val := by
  have e2 : (sn.map fun q => fnS K q.1)[i]? = (sn.map fun q => q.2.val)[i]? := by rw [c.s]
  rw [List.getElem?_map, List.getElem?_map, h] at e2
  exact Option.some.inj e2
def oexB (K : Frg) (C : Addr) : Bool := (match K.lookup C with
  | some ⟨.type "type", _, .cls cd, ⟨[_, _, _, _, some (.builtin n), _]⟩⟩ => (match cd.mro with
    | .ref C' :: bm => C' == C && (n == "ValueError.__new__" && (!cd.hasDel && (cd.hasDict && PySem.HandSPX.refsVE bm)))
    | _ => false)
  | _ => false) && (eqOO (PySem.W.findIn K (.ref C) "__setattr__") (some (some (.builtin "object.__setattr__"))) && (eqOB (PySem.W.subIn K (.ref C) (.type "BaseException")) (some true) && (decide (PySem.W.typeIn K (.ref C) = some (.type "type")) && PySem.W.keepIn K (.ref C))))
def supB (K : Frg) (pf : Str) (c qual : Str) : Bool := (match K.lookup (He.ma K (He.ga K c) "__init__") with
  | some ⟨_, _, .func fd, _⟩ => (match fd.closure with
    | [(n, cc)] => n == ("__class__" : Str) && (match K.lookup cc with
      | some ⟨_, _, .cell (some (.ref C)), _⟩ => C == He.ga K c
      | _ => false)
    | _ => false) && (decide (fd.defaults = .none) && (match fd.code with
    | .ref cda => PySem.W.codeIn K (.ref cda) qual && (match K.lookup cda with
      | some ⟨_, _, .fields vs, _⟩ => (match (vs[2]? : Option Value) with
        | some (.str f _) => pf == f
        | _ => false)
      | _ => false)
    | _ => false))
  | _ => false) && (eqOO (PySem.W.findIn K (.ref (He.ga K c)) "__init__") (some (some (.ref (He.ma K (He.ga K c) "__init__")))) && (decide (PySem.W.typeIn K (.ref (He.ma K (He.ga K c) "__init__")) = some (.type "function")) && (oexB K (He.ga K c) &&
  (eqOB (PySem.W.mroIn K (He.ga K c) (.ref (He.ga K c))) (some true) && (decide (PySem.W.nsIn K cStatics "thirdparty.any" = some none) && (decide (PySem.W.ks_superIn K (He.ga K c) (He.ga K c) "__init__" = some (some (.builtin "ValueError.__init__"))) && eqOB (PySem.W.subIn K (.ref (He.ga K c)) (.type "ValueError")) (some true)))))))
/-! tables -/
def cokB (K : Frg) (c : Str) (T : CTab) : Bool := T.all fun q => eqOB (PySem.W.exmOne K (.ref (He.ga K q.1)) (.ref (He.ga K c))) (some q.2)
def excCB (K : Frg) (D : Addr) : Bool := eqOO (PySem.W.findIn K (.ref D) "__getattribute__") (some (some (.builtin "BaseException.__getattribute__"))) && (eqOO (PySem.W.findIn K (.ref D) "__getattr__") (some none) && (eqOB (PySem.W.subIn K (.ref D) (.type "BaseException")) (some true) && (PySem.W.hasDictIn K D &&
  (eqOO (PySem.W.findIn K (.ref D) "__class__") (some (some (.builtin "object.__class__"))) && (eqOO (PySem.W.specialIn K (.builtin "object.__class__") "__get__") (some (some (.builtin "getset_descriptor.__get__"))) && (eqOB (PySem.W.takesIn K (.builtin "object.__class__")) (some true) && eqOB (PySem.W.mroIn K D (.type "object")) (some true)))))))
def eokB (K : Frg) (T : ETab) : Bool := T.all fun q => excCB K (He.ga K q.1) && (match eVal K q.2.1 with
  | some cv => eqOB (PySem.W.kitOne K (.ref (He.ga K q.1)) cv) (some q.2.2)
  | none => false)
def xfsB (K : Frg) (cs : List (Str × Str)) : Bool := cs.all fun q => xfB K (He.ga K q.1) && eqOO (PySem.W.findIn K (.ref (He.ga K q.1)) q.2) (some none)
def dataO (f : PEF) : POF := fun σ => (f σ).map O.d
@[simp] theorem dataO_ap {f : PEF} {σ : Sg} : dataO f σ = (f σ).map O.d := (rfl)
/-! ### reckoning -/
section
variable {σ : Sg} {ω ω1 ω2 : Om} {fs gs : PAF} {ds es : List D} {c : Str} {n m l i : Nat} {mf : MFn} {pf : PFn} {dds : List D} {g : List D → List D → List D} {x : Exn} {o : O}
def makeXR (c : Str) (f : MFn) (l : Nat) (dds : List D) (x : R Exn (List D)) : R Exn O := x.bind fun ds => if (ds ++ dds).length = l then madeX c f (ds ++ dds) else .no
@[simp] theorem cMakeX_ap : cMakeX c mf l dds fs σ = makeXR c mf l dds (fs σ) := (rfl)
def makeKXR (c : Str) (f : MFn) (n m l : Nat) (g : List D → List D → List D) (x y : R Exn (List D)) : R Exn O := x.bind fun ds => y.bind fun es => if ds.length = n ∧ es.length = m ∧ (g ds es).length = l then madeX c f (g ds es) else .no
@[simp] theorem cMakeKX_ap : cMakeKX c mf n m l g fs gs σ = makeKXR c mf n m l g (fs σ) (gs σ) := (rfl)
def callXR (f : PFn) (l : Nat) (dds : List D) (x : R Exn (List D)) : R Exn O := x.bind fun ds => if (ds ++ dds).length = l then f (ds ++ dds) else .no
@[simp] theorem cCallX_ap : cCallX pf l dds fs σ = callXR pf l dds (fs σ) := (rfl)
variable {f h : VS} {fe : EO} {ce : EB} {p : Exn × Om} {b : Bool} {ef : EAF} {gi : XInit} {T : CTab} {fh : Exn → VS} {fp : POF} {r : RX Fl}
variable {nx ct bk : Om → Prop} {rt : O → Om → Prop}
@[simp] theorem cIsE_ap {T : ETab} {d : D} : cIsE T x d σ = R.of ((eLook T x.c d).map .bl) := (rfl)
@[simp] theorem cExF_ap {cs : List Str} {f : Str} : cExF cs f x σ = R.of (if cs.contains x.c = true then x.fs.lookup f else none) := (rfl)
end
end VL
/-! VL: own classes' special methods: in, bool, binary operators (machine part). -/
namespace L2
open PySem PySem.Spec PyProof.Rows PySem.W
section
variable {X : Cx} {CX : CXT} {k : Nat} {f C : Addr} {fd : FuncData} {ps : List Str} {sp : Sp}
def rInO (C : Addr) (sp : Sp) (neg : Bool) : R2 := fun x y H Q => ∃ a dx fs, y = .ref a ∧ H a = some (.ins C dx fs) ∧ sp [.ref a, x] H (fun v H' => ∃ b, v = .bl b ∧ Q (.bl (b != neg)) H') (fun _ _ _ => False)
end
section
variable {prog : Program} {w : World} {A : Around} {E : Value → Shared → Prop} {s : Shared} {K : Frag} {x C f : Addr} {ox : Obj} {odd : Option Obj} {h₀ : Heap} {L : Addr} {m : Str → Option Value}
end
end L2
/-! VL: own classes' special methods: in, bool, binary operators. -/
namespace L2
open PySem PySem.Spec PyProof.Rows PySem.W
section
variable {X : Cx} {k : Nat} {f C C' f' : Addr} {fd : FuncData} {ps : List Str} {sp : Sp}
/-- what two classes must be, so that the first one's op is asked -/
structure BinC (K : Frag) (op : Operator) (C C' f f' : Addr) : Prop where
  first : selfFirst K C = true
  first' : selfFirst K C' = true
  at_ : findIn K (.ref C) (PySem.dunder op.info.2) = some (some (.ref f))
  fn : isFn K (.ref f) = true
  at' : findIn K (.ref C') (PySem.dunder op.info.2) = some (some (.ref f'))
  r : findIn K (.ref C) (dunderR op.info.2) = some none
  r' : findIn K (.ref C') (dunderR op.info.2) = some none
  sub : C = C' ∨ subIn K (.ref C') (.ref C) = some false
end
end L2
namespace VL
open PySem PySem.Spec PyProof.Rows L2 FL
def dunA (m : Str) (tb : MTab) (x y : D) : Option (R Exn O) := match methD m tb x with
  | some (f, []) => some (f [x, y])
  | _ => none
def gInO (tb : MTab) (neg : Bool) : G2 := fun x y => match dunA "__contains__" tb y x with
  | some (.ok (.d (.bl b))) => some (.d (.bl (b != neg)))
  | _ => none
def gBoolO (tb : MTab) : GL := g1 fun x => match methD "__bool__" tb x with
  | some (f, []) => (match f [x] with
    | .ok (.d (.bl b)) => some (.d (.bl b))
    | _ => none)
  | _ => none
def gDunO (m : Str) (tb : MTab) (pairs : List (Str × Str)) : G2 := fun x y => match x, y with
  | .obj c _, .obj c' _ => if pairs.contains (c, c') = true then (match dunA m tb x y with
    | some (.ok o) => some o
    | _ => none) else none
  | _, _ => none
section
variable {X : Cx} {k n : Nat} {tb : MTab}
/-- what a class must be for op -/
def dunF (K : Frg) (op : Operator) (c : Str) : Prop := PySem.W.selfFirst K (He.ga K c) = true ∧ PySem.W.findIn K (.ref (He.ga K c)) (dunderR op.info.2) = some none
end
end VL
/-! VL: a loop over an instance whose __iter__ says return iter(self.f), f a tuple. -/
namespace L2
open PySem PySem.Spec PyProof.Rows PySem.W
section
variable {prog : Program} {w : World} {A : Around} {E : Value → Shared → Prop} {s : Shared} {t : Addr} {items : Array Value}
end
section
variable {X : Cx} {tg e : Expr} {te : TE}
/-- a loop over such an instance -/
def iOwnT (K : Frag) (C : Addr) (fl : Str) (te : TE) : TI := fun σ H R => te σ H fun v H1 => ∃ (a dx t : Addr) (fs : List (Str × V)), v = .ref a ∧ H1 a = some (.ins C dx fs) ∧ fs.lookup fl = some (.ref t) ∧ (∃ xs, SqT K H1 t xs) ∧ R (Itt K t) H1
end
end L2
namespace VL
open PySem PySem.Spec PyProof.Rows L2 FL
/-- the class c's __iter__ says return iter(self.f) -/
structure IterOk (K : Frg) (mg : Str → Option Value) (c fl : Str) : Prop where
  ex : ∃ f name qual self params p1 p2 p3 p4 p5 scope dV kV doc pm cdv ct oc an od osl N, K.lookup f = some ⟨oc, od, .func (PySem.W.fnOf name qual params [.Return (some (.Call (.Name "iter" p1) [.Attribute (.Name self p2) fl p3] [] p4)) p5] scope dV kV doc pm an cdv ct), osl⟩ ∧ PySem.W.codeIn K cdv qual = true ∧
    FnScope N [self] scope ∧ scope.names.lookup ("iter" : Str) = some .globalImplicit ∧ (self == ("__debug__" : Str)) = false ∧ (self == ("__classdict__" : Str)) = false ∧ Meth K (He.ga K c) "__iter__" f ∧
    (∀ env : Env, attributeBase (.Name self p2) fl env (eval (.Name self p2) env) = eval (.Name self p2) env) ∧ (∀ env : Env, starEach [.Attribute (.Name self p2) fl p3] env = (false, eval (.Attribute (.Name self p2) fl p3) env) :: starEach [] env) ∧
    ∀ (s : Shared) (u : Value), BindsTo s (PySem.W.fnOf name qual params [.Return (some (.Call (.Name "iter" p1) [.Attribute (.Name self p2) fl p3] [] p4)) p5] scope dV kV doc pm an cdv ct) ⟨[u], []⟩ [(self, u)]
  iter : mg "iter" = none
  cls : Cls K (He.ga K c)
  nat : NoAttr K (He.ga K c) fl
def kOwn (c fl : Str) : D → Option (List ItD)
  | .obj c' fs => if c' = c then (match fs.lookup fl with
    | some (.tup ds) => some (ds.map .one)
    | _ => none) else none
  | _ => none
def iOwnP (c fl : Str) (f : PEF) : PIF := fun σ => (f σ).bind fun d => R.of (kOwn c fl d)
def iOwnX (c fl : Str) (f : EV) : XIF := fun ω => bnd (f ω) fun d ω => match kOwn c fl d with
  | some items => .ok (items, ω)
  | none => .no
section
variable {X : Cx} {W : WW} {tg l : Expr} {c fl : Str} {k : Nat}
end
end VL
/-! VL: sorted of a list of pairs of ints. -/
namespace VL
open PySem PySem.Spec PyProof.Rows L2 FL
def tupP (p : Int × Int) : D := .tup [.int p.1, .int p.2]
def pairD : D → Option (Int × Int)
  | .tup [.int i, .int j] => some (i, j)
  | _ => none
def allP : List D → Option (List (Int × Int))
  | [] => some []
  | d :: ds => (pairD d).bind fun p => (allP ds).map (p :: ·)
def pairsD (d : D) : Option (List (Int × Int)) := match seqD d with
  | some (false, ds) => allP ds
  | _ => none
def lexLe (a b : Int × Int) : Prop := a.1 < b.1 ∨ (a.1 = b.1 ∧ a.2 ≤ b.2)
instance (a b : Int × Int) : Decidable (lexLe a b) := inferInstanceAs (Decidable (_ ∨ _))
def srtP (ps : List (Int × Int)) : List (Int × Int) := ps.mergeSort (fun a b => decide (lexLe a b))
open Classical in
/-- the pair that a value of the heap is -/
noncomputable def pairAt (h : Heap) (u : Value) : Int × Int := if q : ∃ p : Int × Int, Srt.IsPair h u p.1 p.2 then q.choose else (0, 0)
section
variable {X : Cx}
def gSortP : GL := g1 fun d => (pairsD d).map fun ps => .l ((srtP ps).map fun p => .d (tupP p))
end
end VL
/-! VL: own special methods: the head's facts, reckoning. -/
namespace VL
open PySem PySem.Spec PyProof.Rows L2 FL
/-! ### reckoning -/
section
variable {σ : Sg} {fo : PEF} {tb : MTab} {c fl : Str} {fs : List (Str × D)} {ds : List D} {x y : D} {b neg : Bool} {pf : PFn} {ω : Om} {fe : EV}
end
end VL
namespace VL
open PySem PySem.Spec PyProof.Rows L2 FL
def dunB (K : Frg) (op : Operator) (c : Str) : Bool := PySem.W.selfFirst K (He.ga K c) && eqOO (PySem.W.findIn K (.ref (He.ga K c)) (dunderR op.info.2)) (some none)
end VL
/-! VL: sums of tuples of any lengths. -/
namespace VL
open PySem PySem.Spec PyProof.Rows L2 FL
section
variable {X : Cx}
def gAddT : G2 := fun x y => match x, y with
  | .tup a, .tup b => if a.length + b.length ≤ sizeLine then some (.d (.tup (a ++ b))) else none
  | _, _ => none
def gAddA : G2 := fun x y => match gAdd x y with
  | some o => some o
  | none => gAddT x y
end
end VL
/-! VL: for x in reversed(list or tuple). -/
namespace VL
open PySem PySem.Spec PyProof.Rows L2 FL
def kRevS (d : D) : Option (List ItD) := (seqD d).map fun p => p.2.reverse.map .one
def iRevS (f : PEF) : PIF := fun σ => (f σ).bind fun d => R.of (kRevS d)
def iRevSX (f : EV) : XIF := fun ω => bnd (f ω) fun d ω => match kRevS d with
  | some items => .ok (items, ω)
  | none => .no
section
variable {X : Cx} {W : WW} {tg l : Expr} {p pos : Pos}
end
end VL
/-! VL: xs[::-1] of a list. -/
namespace VL
open PySem PySem.Spec PyProof.Rows L2 FL
def gRevL (d : D) : Option O := match seqD d with
  | some (false, ds) => some (.l (ds.reverse.map .d))
  | _ => none
def cRevL (f : PEF) : POF := fun σ => (f σ).bind fun d => R.of (gRevL d)
section
variable {X : Cx} {W : WW} {e : Expr} {f : PEF} {k : Nat} {p1 p2 p3 pos : Pos}
@[simp] theorem cRevL_ap {σ : VL.Sg} : cRevL f σ = (f σ).bind fun d => R.of (gRevL d) := (rfl)
@[simp] theorem gRevL_l {ds : List D} : gRevL (.lst ds) = some (.l (ds.reverse.map .d)) := (rfl)
end
end VL
/-! VL: < > <= >= of data that are alike (tuples, lists, texts). -/
namespace VL
open PySem PySem.Spec PyProof.Rows L2 FL
def gLtD : G2 := fun x y => (ordD x y).map fun b => .d (.bl b)
def gGeD : G2 := fun x y => (ordD x y).map fun b => .d (.bl (!b))
section
variable {X : Cx}
end
def gLtA : G2 := fun x y => match gLt x y with
  | some o => some o
  | none => gLtD x y
@[simp] theorem gLtA_i {i j : Int} : gLtA (.int i) (.int j) = some (.d (.bl (decide (i < j)))) := (rfl)
section
variable {α β : Type} [DecidableEq α] [PySem.W.DatumOrd α] [DecidableEq β] [PySem.W.DatumOrd β] {e : α → D} {e' : β → D} {k k' : Nat}
theorem OrdE.pair (h : OrdE e k) (h' : OrdE e' k') : OrdE (α := α × β) (fun p => .tup [e p.1, e' p.2]) (max k k' + 1) := ⟨fun p => by
  show (((pyD (e p.1)).bind fun a => ((pyD (e' p.2)).bind fun b => (some []).map fun q => b :: q).map fun q => a :: q)).map PyData.tuple = _
  rw [h.py, h'.py]; rfl, fun p => by
  show PyData.depth (.tuple [PySem.W.Datum.toD p.1, PySem.W.Datum.toD p.2]) ≤ _
  have a := h.dep p.1
  have b := h'.dep p.2
  simp only [PyData.depth, PyData.depthAll]
  omega⟩
end
end VL
/-! VL: zip of a list and a tuple, in either order. -/
namespace VL
open PySem PySem.Spec PyProof.Rows L2 FL
def SqB (K : Frg) (H : Hp) : Bool → Addr → List V → Prop
  | true, a, xs => SqT K H a xs
  | false, a, xs => SqL K H a xs
def isB (h : Heap) : Bool → Addr → Array Value → Prop
  | true, a, xs => h.IsTuple a xs
  | false, a, xs => h.IsList a xs
def itB (h : Heap) : Bool → Addr → Addr → Nat → Prop
  | true, i, a, k => h.IsTupleIter i a k
  | false, i, a, k => h.IsListIter i a k
def obB : Bool → Addr → Obj
  | true, a => { cls := .type "tuple_iterator", data := .fields #[.ref a, .int 0 0] }
  | false, a => { cls := .type "list_iterator", data := .fields #[.ref a, .int 0 0] }
def Itm (K : Frg) (b c : Bool) (a d : Addr) : It :=
  ⟨fun i H => ∃ (xs ys : List V) (x y : V), SqB K H b a xs ∧ SqB K H c d ys ∧ xs[i]? = some x ∧ ys[i]? = some y,
    fun i H v H' => ∃ T x y, v = .ref T ∧ H T = none ∧ H' = upd H T (.tup [x, y]) ∧ (∀ xs, SqB K H b a xs → xs[i]? = some x) ∧ ∀ ys, SqB K H c d ys → ys[i]? = some y,
    fun i H => ∃ xs ys : List V, SqB K H b a xs ∧ SqB K H c d ys ∧ (xs.length ≤ i ∨ ys.length ≤ i)⟩
section
variable {X : Cx} {pins : List (Addr × Obj)} {σ : L2.St} {H : Hp} {s : Shared}
end
/-- five new things apart from the two that are walked -/
structure Five (z TI TO i1 i2 a d : Addr) : Prop where
  sep : ZipSep2 z TI TO i1 i2 [i1, a] [i2, d]
  a1 : a ≠ i1
  d2 : d ≠ i2
def iZipM (K : Frg) (ta : TA) : TI := fun σ H R => ta σ H fun vs H1 => ∃ a d b c xs ys, vs = [.ref a, .ref d] ∧ SqB K H1 b a xs ∧ SqB K H1 c d ys ∧ R (Itm K b c a d) H1
/-! ### as items -/
def kZipA : KI := fun ds => match ds with
  | [d, e] => (match seqD d, seqD e with
    | some (_, us), some (_, ws) => some (List.zipWith (fun x y => .tup [x, y]) us ws)
    | _, _ => none)
  | _ => none
section
variable {X : Cx} {W : WW} {p pos : Pos}
end
end VL
/-! VL: a slot's object is held still, from an expression on. -/
namespace VL
open PySem PySem.Spec PyProof.Rows L2 FL
def eHold {α : Type} (i : Nat) (f : Om → RX α) : Om → RX α := fun ω => match ω[i]? with
  | some (some o) => f (ω.set i (some (.d (frz o))))
  | _ => .no
def eHoldO (i : Nat) (f : EO) : EO := eHold i f
section
variable {X : Cx} {W : WW} {e : Expr} {f : EO} {fv : EV} {fb : EB}
end
section
variable {α : Type} {ω : Om} {i : Nat} {f : Om → RX α} {fo : EO} {o : O}
def holdR (i : Nat) (x : Option (Option O)) (f : Om → RX α) (ω : Om) : RX α := match x with
  | some (some o) => f (ω.set i (some (.d (frz o))))
  | _ => .no
@[simp] theorem eHold_ap : eHold i f ω = holdR i (ω[i]?) f ω := by unfold eHold holdR; rfl
@[simp] theorem eHoldO_ap : eHoldO i fo ω = holdR i (ω[i]?) fo ω := by unfold eHoldO; rw [eHold_ap]
@[simp] theorem holdR_s : holdR i (some (some o)) f ω = f (ω.set i (some (.d (frz o)))) := (rfl)
end
/-! ### sequences of either kind -/
def sq (b : Bool) (ds : List D) : D := match b with
  | true => .tup ds
  | false => .lst ds
section
variable {b : Bool} {ds : List D}
@[simp] theorem sq_len : gLenA [sq b ds] = some (.d (.int (ds.length : Int))) := by cases b <;> rfl
@[simp] theorem sq_seq : kSeq [sq b ds] = some (ds.map .one) := by cases b <;> rfl
theorem sq_ix {i : Int} : gIx (sq b ds) (.int i) = (atI ds i).map .d := by cases b <;> rfl
@[simp] theorem sq_list : gList [sq b ds] = some (.l (ds.map .d)) := by cases b <;> rfl
@[simp] theorem sq_tuple : gTuple [sq b ds] = some (.d (.tup ds)) := by cases b <;> rfl
@[simp] theorem sq_non : isNon (sq b ds) = false := by cases b <;> rfl
end
section
variable {g : G2} {f : EV} {h : VS} {ω ω1 ω2 : Om} {nx ct bk : Om → Prop} {rt : O → Om → Prop} {i : Nat} {x y d : D}
theorem t_aug1 (h0 : ω[i]? = some (some (.d x))) (e : f ω = .ok (y, ω1)) (e2 : g x y = some (.d d)) (s : ω1.set i (some (.d d)) = ω2) (k : nx ω2) : W (cAug i g f ω) nx ct bk rt := by
  refine w_of (ω' := ω2) ?_ k
  unfold cAug
  simp only [h0, e, bnd_s, e2, s]
theorem t_aug (h0 : ω[i]? = some (some (.d x))) (e : f ω = .ok (y, ω1)) (e2 : g x y = some (.d d)) (s : ω1.set i (some (.d d)) = ω2) (k : W (h ω2) nx ct bk rt) : W (cSeq (cAug i g f) h ω) nx ct bk rt := w_seq (t_aug1 h0 e e2 s k)
end
/-! ### comprehensions whose elements draw -/
section
variable {α : Type} {ω : Om} {fi : XIF} {gt : GF} {fe : EO} {vs : List Nat} {Q : O → Om → Prop}
end
/-! ### in -/
section
variable {α : Type} [DecidableEq α] {e : α → D} {k : Nat} {p : α → PyData}
theorem EqE.shaped (h : EqE e k p) (hk : k ≤ 64) (a : α) : SeqAt.shaped (p a) = true := by
  unfold SeqAt.shaped
  rw [h.can, decide_eq_true (Nat.le_trans (h.dep a) hk)]; rfl
theorem EqE.shapedL (h : EqE e k p) (hk : k + 1 ≤ 64) (xs : List α) : SeqAt.shaped (.list (xs.map p)) = true := h.lst.shaped hk xs
theorem EqE.gIn (h : EqE e k p) (hk : k + 1 ≤ 64) (a : α) (xs : List α) : VL.gIn (e a) (.lst (xs.map e)) = some (.d (.bl (decide (a ∈ xs)))) := by
  have e1 : pyD (.lst (xs.map e)) = some (.list (xs.map p)) := h.lst.py xs
  show gInG false (e a) (.lst (xs.map e)) = _
  unfold gInG
  rw [h.py, e1]
  show (if _ then _ else _) = _
  rw [if_pos ⟨h.shaped (by omega) a, h.shapedL hk xs⟩]
  congr 3
  rw [Bool.eq_iff_iff]
  simp [h.eq]
end
end VL
/-! VL: an item of a new list as an object of its own; x[::-1] of a slot's own list, whose items stay objects. -/
namespace VL
open PySem PySem.Spec PyProof.Rows L2 FL
def cIxN (f : POF) (j : Int) : POF := fun σ => (f σ).bind fun o => match o with
  | .l os => R.of (atI os j)
  | _ => .no
def cRevMv (i : Nat) : EO := fun ω => match ω[i]? with
  | some (some (.l os)) => .ok (.l os.reverse, ω.set i none)
  | _ => .no
theorem Owns.reverse {K : Frg} {F H : Hp} : ∀ {vs : List V} {os : List O} {B : List Addr}, Owns K F H vs os B → ∃ B', Owns K F H vs.reverse os.reverse B' ∧ B'.Perm B
  | _, _, _, .nil => ⟨[], .nil, .refl _⟩
  | _, _, _, .cons (B := B) (C := C) q r => by
    obtain ⟨B', h1, h2⟩ := Owns.reverse r
    rw [List.reverse_cons, List.reverse_cons]
    refine ⟨B' ++ (B ++ []), Owns.append h1 (.cons q .nil), ?_⟩
    rw [List.append_nil]
    exact (List.perm_append_comm).trans (List.Perm.append_left _ h2)
section
variable {X : Cx} {W : WW} {e b : Expr} {f : POF} {pos p1 p2 p3 npos : Pos} {kk : Nat}
end
section
variable {σ : Sg} {f : POF} {j : Int} {os : List O} {ω : Om} {i : Nat} {o : O}
def ixNR (x : R Exn O) (j : Int) : R Exn O := x.bind fun o => match o with
  | .l os => R.of (atI os j)
  | _ => .no
@[simp] theorem cIxN_ap : cIxN f j σ = ixNR (f σ) j := (rfl)
@[simp] theorem ixNR_s : ixNR (.ok (.l os)) j = R.of (atI os j) := (rfl)
def revMvR (i : Nat) (x : Option (Option O)) (ω : Om) : RX O := match x with
  | some (some (.l os)) => .ok (.l os.reverse, ω.set i none)
  | _ => .no
@[simp] theorem cRevMv_ap : cRevMv i ω = revMvR i (ω[i]?) ω := by unfold cRevMv revMvR; rfl
@[simp] theorem revMvR_s : revMvR i (some (some (.l os))) ω = .ok (.l os.reverse, ω.set i none) := (rfl)
end
theorem WX.get {α : Type} {r : RX α} {Q : α → Om → Prop} (h : WX r Q) : ∃ a ω, r = .ok (a, ω) ∧ Q a ω := by
  obtain ⟨h⟩ := h
  cases r with
  | ok p => exact ⟨p.1, p.2, rfl, h⟩
  | ex x => exact h.elim
  | no => exact h.elim
section
variable {a b c d e f g h p q r s : O} {x y z t u v : D}
@[simp] theorem lstR_5 : lstR (.ok [a, b, c, d, e]) = .ok (.l [a, b, c, d, e]) := lstR_s (by simp)
@[simp] theorem lstR_6 : lstR (.ok [a, b, c, d, e, f]) = .ok (.l [a, b, c, d, e, f]) := lstR_s (by simp)
@[simp] theorem lstR_7 : lstR (.ok [a, b, c, d, e, f, g]) = .ok (.l [a, b, c, d, e, f, g]) := lstR_s (by simp)
@[simp] theorem lstR_9 : lstR (.ok [a, b, c, d, e, f, g, h, p]) = .ok (.l [a, b, c, d, e, f, g, h, p]) := lstR_s (by simp)
@[simp] theorem lstR_10 : lstR (.ok [a, b, c, d, e, f, g, h, p, q]) = .ok (.l [a, b, c, d, e, f, g, h, p, q]) := lstR_s (by simp)
@[simp] theorem lstR_11 : lstR (.ok [a, b, c, d, e, f, g, h, p, q, r]) = .ok (.l [a, b, c, d, e, f, g, h, p, q, r]) := lstR_s (by simp)
@[simp] theorem lstR_12 : lstR (.ok [a, b, c, d, e, f, g, h, p, q, r, s]) = .ok (.l [a, b, c, d, e, f, g, h, p, q, r, s]) := lstR_s (by simp)
end
end VL
/-! VL: for x in a slot's own list, whose items the body changes: the item is lent to the name's slot for each turn. -/
namespace VL
open PySem PySem.Spec PyProof.Rows L2 FL
def loopMv (i j : Nat) (body : VS) (cl : List Nat) : Nat → Nat → List O → VS
  | 0, _, os, ω => .ok (.nx, ω.set i (some (.l os)))
  | n + 1, k, os, ω => match os[k]? with
    | none => .no
    | some o => bnd (body (ω.set j (some o))) fun fl ω2 => match fl with
      | .nx => (match ω2[j]? with
        | some (some o') => loopMv i j body cl n (k + 1) (os.set k o') (forget cl (ω2.set j none))
        | _ => .no)
      | .ct => (match ω2[j]? with
        | some (some o') => loopMv i j body cl n (k + 1) (os.set k o') (forget cl (ω2.set j none))
        | _ => .no)
      | _ => .no
def cForMv (i j : Nat) (body : VS) (cl : List Nat) : VS := fun ω => match ω[i]? with
  | some (some (.l os)) => loopMv i j body cl os.length 0 os (forget cl (ω.set i none))
  | _ => .no
section
variable {X : Cx} {W : WW} {P : List Nat} {pos npos tpos : Pos}
end
end VL
/-! VL: stepping rules (loops that change items, nested stores, tuple targets, extend); tables of optional numbers. -/
namespace VL
open PySem PySem.Spec PyProof.Rows L2 FL
section
variable {f : VS} {ω ω1 ω2 : Om} {nx ct bk : Om → Prop} {rt : O → Om → Prop} {i j : Nat} {cl : List Nat} {g : GF} {fe : EV} {h : VS}
theorem t_asgT1 {d : D} (e : fe ω = .ok (d, ω1)) (s : g (.one d) ω1 = some ω2) (k : nx ω2) : W (cAsgT g fe ω) nx ct bk rt := by
  refine w_of (ω' := ω2) ?_ k
  unfold cAsgT
  rw [e, bnd_s]
  simp only [s]
theorem t_asgT {d : D} (e : fe ω = .ok (d, ω1)) (s : g (.one d) ω1 = some ω2) (k : W (h ω2) nx ct bk rt) : W (cSeq (cAsgT g fe) h ω) nx ct bk rt := w_seq (t_asgT1 e s k)
end
/-! ### optional numbers -/
def optI : Option Int → D
  | none => .non
  | some i => .int i
@[simp] theorem optI_n : optI none = .non := (rfl)
@[simp] theorem optI_s {i : Int} : optI (some i) = .int i := (rfl)
@[simp] theorem isNon_optI {x : Option Int} : isNon (optI x) = x.isNone := by cases x <;> rfl
@[simp] theorem flat_optI {x : Option Int} : flat (optI x) = true := by cases x <;> rfl
/-! ### rows and tables as functions -/
section
variable {n : Nat}
def fO (n : Nat) (f : Nat → D) : O := .l ((List.range n).map fun j => .d (f j))
def fD (n : Nat) (f : Nat → D) : D := .lst ((List.range n).map f)
theorem frz_fO {f : Nat → D} : frz (fO n f) = fD n f := by unfold fO fD; rw [frz_l, frzL_md]
theorem fD_ix {f : Nat → D} {x : Int} {c : Nat} (hx : x = (c : Int)) (hc : c < n) : gIx (fD n f) (.int x) = some (O.d (f c)) := by
  subst hx
  unfold fD
  simp [List.getElem?_range hc]
theorem rng_ext {α : Type} {e e' : Nat → α} (h : ∀ c, c < n → e c = e' c) : (List.range n).map e = (List.range n).map e' := List.map_congr_left fun c hc => h c (List.mem_range.mp hc)
theorem rng_set {α : Type} {e e' : Nat → α} {k : Nat} {v : α} (hk : k < n) (h : ∀ c, c < n → e' c = if c = k then v else e c) : ((List.range n).map e).set k v = (List.range n).map e' := by
  refine List.ext_getElem? fun i => ?_
  rw [List.getElem?_set]
  by_cases hi : i < n
  · rw [List.getElem?_map, List.getElem?_map, List.getElem?_range hi]
    show _ = some (e' i)
    rw [h i hi]
    by_cases c : k = i
    · subst c
      rw [if_pos rfl, if_pos rfl, if_pos (by simpa using hi)]
    · rw [if_neg c, if_neg fun z => c z.symm]
      rfl
  · rw [List.getElem?_eq_none (l := (List.range n).map e') (by simp; omega)]
    have : ¬ k = i := by omega
    rw [if_neg this, List.getElem?_eq_none (by simp; omega)]
theorem rng_get {α : Type} {e : Nat → α} {k : Nat} (hk : k < n) : ((List.range n).map e)[k]? = some (e k) := by rw [List.getElem?_map, List.getElem?_range hk]; rfl
/-- a table of rows -/
def gO (n m : Nat) (T : Nat → Nat → D) : O := .l ((List.range n).map fun i => fO m (T i))
def gD (n m : Nat) (T : Nat → Nat → D) : D := .lst ((List.range n).map fun i => fD m (T i))
theorem viewD_fO {f : Nat → D} {ω : Om} : viewD (some (fO n f) :: ω) = none :: viewD ω := (rfl)
end
end VL
/-! VL: places in a def's text (scopes of comprehensions that stand in comprehensions). -/
namespace VL
open PySem PySem.Spec PyProof.Rows L2 FL
def noE : Expr := .Constant .none 0 ⟨0, 0, 0, 0⟩
def noS : Stmt := .Pass ⟨0, 0, 0, 0⟩
def sAt (l : List Stmt) (k : Nat) : Stmt := l.getD k noS
def eAt (l : List Expr) (k : Nat) : Expr := l.getD k noE
def sVal : Stmt → Expr
  | .Assign _ e _ => e
  | .Return (some e) _ => e
  | .Expr e _ => e
  | .If e _ _ _ => e
  | .For _ e _ _ _ => e
  | _ => noE
def sBody : Stmt → List Stmt
  | .For _ _ b _ _ => b
  | .If _ b _ _ => b
  | .While _ b _ _ => b
  | _ => []
def sElse : Stmt → List Stmt
  | .If _ _ b _ => b
  | _ => []
def eArg (e : Expr) (k : Nat) : Expr := match e with
  | .Call _ as _ _ => eAt as k
  | _ => noE
def eElt : Expr → Expr
  | .ListComp e _ _ _ => e
  | _ => noE
def eLeft : Expr → Expr
  | .BinOp a _ _ _ => a
  | .Compare a _ _ _ => a
  | .Subscript a _ _ => a
  | .UnaryOp _ a _ => a
  | _ => noE
def eRight : Expr → Expr
  | .BinOp _ _ b _ => b
  | .Compare _ _ bs _ => eAt bs 0
  | .Subscript _ b _ => b
  | _ => noE
def lcSc (d : Scope) : Expr → Scope
  | .ListComp _ _ s _ => s
  | _ => d
end VL
/-! VL: the scope of a comprehension that stands in another's. -/
namespace VL
open PySem PySem.Spec PyProof.Rows L2 FL
/-- the scope that a comprehension's block has within the scope sc (as relabel has it) -/
def rlSc (scope sc : Scope) : Scope :=
  { scope with names := scope.names.map fun (n, k) => if (k == .free && sc.kind == .function && sc.names.lookup n == some .cell) then (n, .cell) else (n, k) }
end VL
/-! VL: an if in an except suite whose test sees all slots held still. -/
namespace VL
open PySem PySem.Spec PyProof.Rows L2 FL
def hIfA (c : PBF) (f g : VS) : VS := fun ω => match c (viewA ω) with
  | .ok true => f ω
  | .ok false => g ω
  | _ => .no
section
variable {X : Cx} {i : Nat} {a : Addr} {cls : Value} {dx : Option Addr} {x : Exn} {P : List Nat} {pos : Pos}
end
section
variable {fc : PBF} {f h : VS} {ω : Om} {nx ct bk : Om → Prop} {rt : O → Om → Prop}
end
end VL
/-! VL: str of an int; the empty tuple as a default. -/
namespace VL
open PySem PySem.Spec PyProof.Rows L2 FL
section
variable {X : Cx}
def gStr : GL := g1 fun d => match d with
  | .int i => if i.natAbs.log2 < 1920 then some (.d (.str (toString i))) else none
  | _ => none
end
/-! ### the empty tuple as a default -/
def tup0B (K : Frg) (a : Addr) : Bool := match K.lookup a with
  | some ⟨.type c, _, .seq its _, _⟩ => decide (c = "tuple") && decide (its.size = 0)
  | _ => false
end VL
/-! VL: xs.clear(); calls of own defs in an except suite. -/
namespace VL
open PySem PySem.Spec PyProof.Rows L2 FL
def cClear (i : Nat) : VS := fun ω => match ω[i]? with
  | some (some (.l _)) => .ok (.nx, ω.set i (some (.l [])))
  | _ => .no
section
variable {X : Cx} {W : WW} {P : List Nat} {x : Str} {npos apos cpos pos : Pos}
end
section
variable {ω ω2 : Om} {i : Nat} {os : List O} {g : VS} {nx ct bk : Om → Prop} {rt : O → Om → Prop}
end
section
variable {X : Cx} {i : Nat} {a : Addr} {cls : Value} {dx : Option Addr} {x0 : Exn} {k : Nat} {x : Str} {ps : List Str} {f : PFn} {p pos : Pos} {e : Expr} {es : List Expr} {fs : PAF} {n : Nat}
end
end VL
/-! VL: a slot's object held still from a value on (a for's iterable). -/
namespace VL
open PySem PySem.Spec PyProof.Rows L2 FL
def eHoldV (i : Nat) (f : EV) : EV := eHold i f
section
variable {X : Cx} {W : WW} {e : Expr} {f : EV}
end
section
variable {ω : Om} {i : Nat} {f : EV} {o : O} {items : List ItD} {ω1 : Om}
end
/-! ### an operator whose answer is a new object, of expressions that may change -/
def eBinO (g : G2) (fa fb : EV) : EO := fun ω => bnd (fa ω) fun x ω => bnd (fb ω) fun y ω => match g x y with
  | some o => .ok (o, ω)
  | none => .no
section
variable {X : Cx} {W : WW} {a b : Expr} {fa fb : EV} {pos : Pos}
end
section
variable {fa fb : EV} {op : G2} {ω : Om} {QO : O → Om → Prop}
end
/-! ### an int in a tuple of ints -/
def gInTG (neg : Bool) : G2 := fun x y => match x, y with
  | .int i, .tup ds => (allI ds).map fun ks => .d (.bl (if neg then !decide (i ∈ ks) else decide (i ∈ ks)))
  | _, _ => none
abbrev gInT : G2 := gInTG false
abbrev gNotInT : G2 := gInTG true
section
variable {X : Cx}
end
end VL
/-! VL: calls of own defs within an except suite (defs that raise nothing and need no calm: no loops). -/
namespace VL
open PySem PySem.Spec PyProof.Rows L2 FL
/-- what a def keeps where an exception is handled; nothing is asked of the exception's context -/
def FnQ (P : Program) (w : World) (K : Frg) (mg : Str → Option Value) (base : Heap) (k : Nat) (f : Addr) (fd : FuncData) (ps : List Str) (sp : Sp) : Prop :=
  (∀ vs H Q E, sp vs H Q E → vs.length = ps.length) ∧ ∀ (A : Around) (outer : List Env) (s : Shared) (H : Hp) (args : Args) (us : List Value) (vs : List V) (Q : VK) (E : XK) (p : Addr × Obj), L2H.RoomH k A → L2H.PinOk outer H s p → Env0 P w K mg base A outer s H →
    BindsTo s fd args (ps.zip us) → Vals vs us → sp vs H Q E → codeAny (model P w) A (.call (.ref f) args) (CR CX0 outer P w H s Q E) s
section
variable {P : Program} {w : World} {K : Frg} {mg : Str → Option Value} {base : Heap} {k : Nat} {f : Addr}
end
section
variable {X : Cx} {k : Nat} {f : Addr} {fd : FuncData} {ps : List Str} {sp : Sp} {E : L2.St → XK} {x : Str} {q pos : Pos} {e : Expr} {es : List Expr} {t : TA}
end
/-- the def that x stands for keeps its promise within except suites, too -/
structure OkQ (P : Program) (w : World) (K : Frg) (mg : Str → Option Value) (k : Nat) (x : Str) (ps : List Str) (f : PFn) : Prop where
  ex : ∃ fd, (∀ base : Heap, FnQ P w K mg base k (He.ga K x) fd ps (spP K ps.length f)) ∧ Binds K fd ps []
  kp : PySem.W.keepIn K (.ref (He.ga K x)) = true
  g : mg x = some (.ref (He.ga K x))
section
variable {X : Cx} {i : Nat} {a : Addr} {cls : Value} {dx : Option Addr} {x0 : Exn} {k : Nat} {x : Str} {ps : List Str} {f : PFn} {p pos : Pos} {e : Expr} {es : List Expr} {fs : PAF} {n : Nat} {oe : Obj} {pn : List (Addr × Obj)}
end
end VL
/-! VL: calls of defs that may raise or have defaults, with arguments that draw. -/
namespace VL
open PySem PySem.Spec PyProof.Rows L2 FL
def eCallX (f : PFn) (l : Nat) (dds : List D) (fs : EAF) : EO := fun ω => bnd (fs ω) fun ds ω => if (ds ++ dds).length = l then (match f (ds ++ dds) with
  | .ok o => .ok (o, ω)
  | .ex x => .ex (x, ω)
  | .no => .no) else .no
section
variable {X : Cx} {W : WW} {k n : Nat} {x : Str} {a : Addr} {d : Dx} {ps : List Str} {pf : PFn} {p pos : Pos} {e : Expr} {es : List Expr} {fs : EAF} {dds : List D}
end
section
variable {f : PFn} {l : Nat} {dds : List D} {fs : EAF} {ω : Om} {QO : O → Om → Prop}
end
end VL
/-! VL: x = t[k]; x.append(e), where t owns a tuple whose part k is a list. -/
namespace VL
open PySem PySem.Spec PyProof.Rows L2 FL
/-- part k of the tuple in slot t gets one item more; slot i shows nothing -/
def cPick (i t k : Nat) (f : EO) : VS := fun ω => if ω.length ≤ i then .no else match ω[t]? with
  | some (some (.t os)) => match os[k]? with
    | some (.l _) => bnd (f (ω.set i none)) fun o ω => match ω[t]? with
      | some (some (.t os)) => match os[k]? with
        | some (.l xs) => if xs.length < sizeLine then .ok (.nx, ω.set t (some (.t (os.set k (.l (xs ++ [o])))))) else .no
        | _ => .no
      | _ => .no
    | _ => .no
  | _ => .no
section
variable {X : Cx} {W : WW} {P : List Nat} {e : Expr} {fe : EO} {g : VS} {rest : List Stmt} {x y : Str} {p1 p2 p3 p4 p5 apos cpos pos1 pos2 : Pos}
theorem atI_pk {vs : List V} {k : Nat} {v : V} (h : vs[k]? = some v) : atI vs (k : Int) = some v := by
  have hk := (List.getElem?_eq_some_iff.mp h).1
  unfold atI
  have : ixN vs.length (k : Int) = some k := by
    unfold ixN
    rw [if_pos (by omega), if_pos (by omega)]; simp
  rw [this]; exact h
end
section
variable {os : List O} {ω ω1 ω2 : Om} {i t k : Nat} {fe : EO} {g : VS} {o : O} {os0 os1 xs xs0 : List O} {nx bk ct : Om → Prop} {rt : O → Om → Prop}
@[simp] theorem frz_t : frz (.t os) = .tup (frzL os) := by rw [frz]
@[simp] theorem flatO_t : flatO (.t os) = flatOL os := by rw [flatO]
@[simp] theorem dOnly_t : dOnly (.t os) = none := rfl
@[simp] theorem eTupO_ap {f : EOAF} : eTupO f ω = bnd (f ω) fun os ω => if os.length ≤ sizeLine then .ok (.t os, ω) else .no := (rfl)
end
/-! ### is True, is not True of a bool -/
def gIsB : G2 := fun x y => match x, y with
  | .bl a, .bl b => some (.d (.bl (decide (a = b))))
  | _, _ => none
def gIsNB : G2 := fun x y => match x, y with
  | .bl a, .bl b => some (.d (.bl (!decide (a = b))))
  | _, _ => none
@[simp] theorem gIsB_s {a b : Bool} : gIsB (.bl a) (.bl b) = some (.d (.bl (decide (a = b)))) := (rfl)
@[simp] theorem gIsNB_s {a b : Bool} : gIsNB (.bl a) (.bl b) = some (.d (.bl (!decide (a = b)))) := (rfl)
end VL
/-! VL: sorted of a list or tuple of alike data (empty tuples among them, too). -/
namespace VL
open PySem PySem.Spec PyProof.Rows L2 FL
namespace Sd
open PySem.W PySem.Calls PySem.SeqAt
section
variable {prog : Program} {w : World} {A : Around} {E : Value → Shared → Prop} {s : Shared}
def neT : PyData → Bool
  | .tuple (_ :: _) => true
  | _ => false
end
end Sd
/-! ### as a value -/
def encD (d : D) : PyData := (pyD d).getD .none
def sortB (ds : List D) : Bool := ds.all (fun d => (pyD d).isSome) && (ds.all (fun d => ds.all fun d' => PySem.W.alike (encD d) (encD d')) && (ds.all (fun d => notNon (encD d) && decide ((encD d).depth ≤ 60)) && decide (ds.length ≤ sizeLine)))
def leD : D → D → Bool := PySem.W.dataLe false encD
def gSortA : GL := g1 fun d => match seqD d with
  | some (_, ds) => if sortB ds = true then some (.l ((ds.mergeSort leD).map .d)) else none
  | none => none
section
variable {X : Cx}
end
/-! ### what it gives -/
section
variable {α : Type} [DecidableEq α] [PySem.W.DatumOrd α] {e : α → D} {k : Nat}
def srtA (xs : List α) : List α := xs.mergeSort fun a b => !PySem.W.DatumOrd.lt b a
theorem OrdE.enc (h : OrdE e k) (a : α) : encD (e a) = PySem.W.Datum.toD a := by unfold encD; rw [h.py]; rfl
theorem OrdE.leD (h : OrdE e k) (a b : α) : leD (e a) (e b) = !PySem.W.DatumOrd.lt b a := by
  show (!PySem.W.dataLt (encD (e b)) (encD (e a))) = _
  rw [h.enc, h.enc, PySem.W.DatumOrd.lt_eq]
theorem OrdE.sortB (h : OrdE e k) (hk : k ≤ 60) (xs : List α) (hl : xs.length ≤ 100000) : sortB (xs.map e) = true := by
  unfold VL.sortB
  simp only [Bool.and_eq_true, List.all_eq_true, List.mem_map, forall_exists_index, and_imp, forall_apply_eq_imp_iff₂, decide_eq_true_eq, List.length_map]
  refine ⟨fun a _ => by rw [h.py]; rfl, fun a _ b _ => by rw [h.enc, h.enc]; exact PySem.W.DatumOrd.alike a b, fun a _ => ⟨by rw [h.enc]; exact ne_notNon (PySem.W.DatumOrd.notNone a), by rw [h.enc]; exact Nat.le_trans (h.dep a) hk⟩, by simp only [sizeLine]; omega⟩
end
end VL
/-! VL: list(reversed(a list)), xs.pop(i), rows[k].insert(i, x). -/
namespace VL
open PySem PySem.Spec PyProof.Rows L2 FL
namespace Sd
open PySem.Calls
section
variable {prog : Program} {w : World} {A : Around} {E : Value → Shared → Prop} {s : Shared}
end
section
variable {X : Cx}
/-- list(reversed(x)), x a list: a new list -/
def tLstRev (K : PySem.W.Frag) (te : TE) : TE := fun σ H Q => te σ H fun v H1 => ∃ (a : Addr) (xs : List V), v = .ref a ∧ SqL K H1 a xs ∧ ∀ q, H1 q = none → Q (.ref q) (upd H1 q (.lst xs.reverse))
end
end Sd
section
variable {X : Cx} {W : WW} {e : Expr} {f : PEF} {p p2 pos pos2 : Pos}
end
end VL
/-! VL: xs.pop(i), rows[k].insert(i, x). -/
namespace VL
open PySem PySem.Spec PyProof.Rows L2 FL
section
variable {X : Cx} {W : WW} {P : List Nat} {e e2 o : Expr} {f : EV} {x : Str} {npos apos cpos pos : Pos}
/-- xs.pop(i): the item is data -/
def cPopAt (i : Nat) (f : EV) : EO := fun ω => match ω[i]? with
  | some (some (.l _)) => bnd (f ω) fun d ω => match d with
    | .int j => match ω[i]? with
      | some (some (.l os)) => match ixN os.length j with
        | some k => match os[k]? with
          | some (.d z) => if os.length ≤ sizeLine then .ok (.d z, ω.set i (some (.l (os.eraseIdx k)))) else .no
          | _ => .no
        | _ => .no
      | _ => .no
    | _ => .no
  | _ => .no
/-- rows[..].insert(i, x) of data -/
def cInsP (pl : PlF) (f g : PEF) : VS := fun ω => match pl ω, f (viewA ω), g (viewA ω) with
  | some q, .ok (.int j), .ok d => (match subO ω q with
    | some (.l os) => if os.length < sizeLine ∧ flat d = true ∧ 0 ≤ j ∧ j < 2 ^ 63 then .ok (.nx, putO ω q (.l (os.take j.toNat ++ [.d d] ++ os.drop j.toNat))) else .no
    | _ => .no)
  | _, _, _ => .no
/-- xs[e] of an own list whose item is data -/
def cItem (i : Nat) (f : EV) : EV := fun ω => match ω[i]? with
  | some (some (.l _)) => bnd (f ω) fun d ω => match d with
    | .int j => match ω[i]? with
      | some (some (.l os)) => match ixN os.length j with
        | some k => match os[k]? with
          | some (.d z) => .ok (z, ω)
          | _ => .no
        | _ => .no
      | _ => .no
    | _ => .no
  | _ => .no
theorem e_item (j : Nat) (he : XV X W e f) (hN : X.N[j]? = some x := by rfl) (hv : Vis X.env.scope x := by first | exact Or.inl rfl | exact Or.inr (Or.inl rfl) | exact Or.inr (Or.inr rfl)) (hd : (x == ("__debug__" : Str)) = false := by decide) (hcd : (x == ("__classdict__" : Str)) = false := by decide)
    (hs : PlainIx e := by intro _ _; rfl) : XV X W (.Subscript (.Name x npos) e pos) (cItem j f) := by
  refine FL.PE.imp (pe_ix ix_list (pe_var hN hv hd hcd) he hs) fun τ H Q ⟨F, A, ω, r, k⟩ => ?_
  unfold cItem at k
  split at k
  case h_2 => exact k.elim
  rename_i os0 h0
  obtain ⟨v, B0, hv0, ow0, _⟩ := r.sl.get h0
  refine ⟨v, hv0, F, A, ω, r, (VOut.bnd k).imp fun d F1 A1 H1 ω1 s1 r1 k1 y ry => ?_⟩
  split at k1
  case h_2 => exact k1.elim
  split at k1
  case h_2 => exact k1.elim
  rename_i os h1
  split at k1
  case h_2 => exact k1.elim
  rename_i kk hk
  split at k1
  case h_2 => exact k1.elim
  rename_i z hz
  cases ry
  obtain ⟨v', B', hv1, ow1, _⟩ := r1.sl.get h1
  have ev : v' = v := by rw [hv0] at hv1; cases hv1; rfl
  subst ev
  cases ow1 with
  | @l a vs _ C g1 g2 g3 =>
    obtain ⟨w, q1, q2⟩ := g3.getD hz
    refine ⟨a, vs, _, w, rfl, rfl, .of g1, ?_, k1 F1 A1 H1 .refl r1 w q2⟩
    unfold atI
    rw [g3.length, hk]
    exact q1
def eRevL (f : EV) : EO := fun ω => bnd (f ω) fun d ω => match gRevL d with
  | some o => .ok (o, ω)
  | none => .no
end
end VL
/-! VL: xs.insert(i, x) of a name, with an index that draws. -/
namespace VL
open PySem PySem.Spec PyProof.Rows L2 FL
def cIns (i : Nat) (f g : EV) : VS := fun ω => match ω[i]? with
  | some (some (.l _)) => bnd (f ω) fun d ω => bnd (g ω) fun u ω => match d with
    | .int j => match ω[i]? with
      | some (some (.l os)) => if os.length < sizeLine ∧ 0 ≤ j ∧ j < 2 ^ 63 then .ok (.nx, ω.set i (some (.l (os.take j.toNat ++ [.d u] ++ os.drop j.toNat)))) else .no
      | _ => .no
    | _ => .no
  | _ => .no
section
variable {X : Cx} {W : WW} {P : List Nat} {e e2 : Expr} {f g : EV} {x : Str} {npos apos cpos pos : Pos}
variable {ω ω2 : Om} {i : Nat} {nx ct bk : Om → Prop} {rt : O → Om → Prop}
end
end VL
/-! VL: sorted of a new list; its items stay objects. -/
namespace VL
open PySem PySem.Spec PyProof.Rows L2 FL
def leO (a b : O) : Bool := leD (frz a) (frz b)
def rSortO (K : Frg) : List V → Hp → VK → Prop := fun vs H Q => ∃ F a xs os B, Sub F H ∧ vs = [.ref a] ∧ H a = some (.lst xs) ∧ Owns K F H xs os B ∧ B.Nodup ∧ sortB (os.map frz) = true ∧
  ∀ H' v B', PStep F H F H' → Own K F H' v (.l (os.mergeSort leO)) B' → B'.Nodup → (∀ b ∈ B', b ∈ B ∨ H b = none) → Q v H'
section
variable {K : Frg} {F H : Hp}
end
section
variable {X : Cx} {W : WW}
def cSortO (f : POF) : POF := fun σ => (f σ).bind fun o => match o with
  | .l os => if sortB (os.map frz) = true then .ok (.l (os.mergeSort leO)) else .no
  | _ => .no
end
end VL
/-! VL: m >>= i; & and | of numbers from 0 on are those of Nat. -/
namespace VL
open PySem PySem.Spec PyProof.Rows L2 FL
end VL
/-! VL: comprehensions whose condition draws; slices xs[k:] and xs[:k]. -/
namespace VL
open PySem PySem.Spec PyProof.Rows L2 FL
section
variable {α : Type} {ω : Om} {fi : XIF} {gt : GF} {fe : EO} {ec : EB} {vs : List Nat} {Q : O → Om → Prop}
end
end VL
/-! VL: operators of several own classes (their operands may be of any of them). -/
namespace VL
open PySem PySem.Spec PyProof.Rows L2 FL
structure DunT (K : Frg) (op : Operator) (cls : List Str) : Prop where
  one : ∀ c ∈ cls, dunF K op c
  two : ∀ a ∈ cls, ∀ b ∈ cls, a = b ∨ PySem.W.subIn K (.ref (He.ga K b)) (.ref (He.ga K a)) = some false
def dunTB (K : Frg) (op : Operator) (cls : List Str) : Bool := (cls.all fun c => dunB K op c) && cls.all fun a => cls.all fun b => a == b || eqOB (PySem.W.subIn K (.ref (He.ga K b)) (.ref (He.ga K a))) (some false)
where eqOB (a b : Option Bool) : Bool := decide (a = b)
def gDunT (m : Str) (tb : MTab) : G2 := gDunO m tb ((tb.map (·.1)).flatMap fun a => (tb.map (·.1)).map fun b => (a, b))
section
variable {X : Cx} {k : Nat} {tb : MTab}
end
end VL
/-! VL: a comparison whose left side changes slots and whose right side reads own objects (the answer is flat). -/
namespace VL
open PySem PySem.Spec PyProof.Rows L2 FL
def eBinA (g : G2) (fa : EV) (fb : PEF) : EV := fun ω => bnd (fa ω) fun x ω => match fb (viewA ω) with
  | .ok y => (match g x y with
    | some o => if flat (frz o) = true then .ok (frz o, ω) else .no
    | none => .no)
  | _ => .no
section
variable {X : Cx} {W : WW} {a b : Expr} {fa : EV} {fb : PEF} {pos : Pos}
end
section
variable {ω : Om} {fa : EV} {fb : PEF} {op : G2} {Q : D → Om → Prop}
end
end VL
/-! Where a def's own objects are lists only, an answer that has no list in it (objects may stand in it) is none of them. -/
namespace VL
open PySem PySem.Spec PyProof.Rows L2 FL
mutual
/-- no list in it -/
def noL : D → Bool
  | .non => true
  | .bl _ => true
  | .int _ => true
  | .str _ => true
  | .tup ds => noLL ds
  | .lst _ => false
  | .obj _ fs => noLF fs
  | .scr _ => false
  | .ty _ => true
  | .glob _ => true
  | .rng _ _ => true
def noLL : List D → Bool
  | [] => true
  | d :: ds => noL d && noLL ds
def noLF : List (Str × D) → Bool
  | [] => true
  | (_, d) :: ds => noL d && noLF ds
end
mutual
def noLO : O → Bool
  | .d d => noL d
  | .l os => noLOL os
  | .i _ fs => noLOF fs
  | .t os => noLOL os
def noLOL : List O → Bool
  | [] => true
  | o :: os => noLO o && noLOL os
def noLOF : List (Str × O) → Bool
  | [] => true
  | (_, o) :: os => noLO o && noLOF os
end
mutual
/-- its own objects are lists -/
def lstO : O → Bool
  | .d _ => true
  | .l os => lstOL os
  | .i _ _ => false
  | .t os => lstOL os
def lstOL : List O → Bool
  | [] => true
  | o :: os => lstO o && lstOL os
end
def lstW : Om → Bool
  | [] => true
  | none :: ω => lstW ω
  | some o :: ω => lstO o && lstW ω
def isL : HO → Prop
  | .lst _ => True
  | _ => False
section
variable {K : Frg} {F F' H : Hp}
end
def loN (f : POF) : EO := fun ω => if lstW ω = true then (match f (viewA ω) with
  | .ok d => if noLO d = true then .ok (d, ω) else .no
  | .ex x => if flatL (x.fs.map (·.2)) = true then .ex (x, ω) else .no
  | .no => .no) else .no
def liN (f : PEF) : EV := fun ω => if lstW ω = true then (match f (viewA ω) with
  | .ok d => if noL d = true then .ok (d, ω) else .no
  | .ex x => if flatL (x.fs.map (·.2)) = true then .ex (x, ω) else .no
  | .no => .no) else .no
section
variable {X : Cx} {W : WW} {e : Expr}
end
end VL
/-! x or y as a value, where x need not be a bool -/
namespace L2
open PySem PySem.Spec PyProof.Rows FL
section
variable {X : Cx} {a b : Expr} {rest : List Expr} {pos : Pos} {ta tb : TE}
def tOrT (K : Frg) (ta tb : TE) : TE := fun σ H Q => ta σ H fun x H1 => ∃ k, TruV K x H1 k ∧ if k = true then Q x H1 else tb σ H1 Q
end
end L2
namespace VL
open PySem PySem.Spec PyProof.Rows L2 FL
section
variable {X : Cx} {W : WW} {a b : Expr} {rest : List Expr} {pos : Pos} {fa fb : PEF}
def cOrT (f g : PEF) : PEF := fun σ => (f σ).bind fun d => (R.of (trD d)).bind fun b => if b = true then .ok d else g σ
end
end VL
/-! raise C('text') of an own exception class without an own __init__ (below ValueError) -/
namespace VL
open PySem PySem.Spec PyProof.Rows L2 FL
structure NoIni (K : Frg) (c : Str) : Prop where
  q : PySem.W.excIn K (He.ga K c) [.type "ValueError", .type "Exception", .type "BaseException", .type "object"] "ValueError.__new__" = true
  k : PySem.W.keepIn K (.ref (He.ga K c)) = true
  s : PySem.W.subIn K (.ref (He.ga K c)) (.type "BaseException") = some true
  t : PySem.W.typeIn K (.ref (He.ga K c)) = some (.type "type")
def noIniB (K : Frg) (c : Str) : Bool := PySem.W.excIn K (He.ga K c) [.type "ValueError", .type "Exception", .type "BaseException", .type "object"] "ValueError.__new__" && (PySem.W.keepIn K (.ref (He.ga K c)) && (eqOB (PySem.W.subIn K (.ref (He.ga K c)) (.type "BaseException")) (some true) && decide (PySem.W.typeIn K (.ref (He.ga K c)) = some (.type "type"))))
def cRaise0 (c : Str) : VS := fun ω => .ex (⟨c, []⟩, ω)
section
variable {X : Cx} {W : WW} {P : List Nat} {x c m : Str} {j : Nat} {p p2 pos pos' : Pos}
end
@[simp] theorem cRaise0_ap {c : Str} {ω : Om} : cRaise0 c ω = .ex (⟨c, []⟩, ω) := (rfl)
end VL
/-! int of a truth value; a number in a tuple of two -/
namespace VL
open PySem PySem.Spec PyProof.Rows L2 FL
section
variable {X : Cx}
def gIntB : GL := g1 fun d => match d with
  | .bl k => some (.d (.int (if k then 1 else 0)))
  | _ => none
@[simp] theorem gIntB_s {b : Bool} : gIntB [.bl b] = some (.d (.int (if b then 1 else 0))) := (rfl)
end
end VL
/-! VL: a for and a comprehension that use up a list of their own: each item is the name's (or names') object. -/
namespace VL
open PySem PySem.Spec PyProof.Rows L2 FL
/-! ### targets that take objects -/
abbrev GOF := O → Om → Option Om
abbrev GOsF := List O → Om → Option Om
def tGO (K : Frg) (is : List Nat) (g : GOF) : TG := fun v τ H Q => ∃ F A B ω o ω', VRel K F H A ω τ ∧ Own K F H v o B ∧ (B ++ A).Nodup ∧ g o ω = some ω' ∧
  ∀ τ' A', (∀ b ∈ A', b ∈ B ++ A) → VRel K F H A' ω' τ' → Dif is τ τ' → Q τ' H
def tGOs (K : Frg) (is : List Nat) (g : GOsF) : TGs := fun vs τ H Q => ∃ F A B ω os ω', VRel K F H A ω τ ∧ Owns K F H vs os B ∧ (B ++ A).Nodup ∧ g os ω = some ω' ∧
  ∀ τ' A', (∀ b ∈ A', b ∈ B ++ A) → VRel K F H A' ω' τ' → Dif is τ τ' → Q τ' H
def GO (X : Cx) (tg : Expr) (is : List Nat) (g : GOF) : Prop := PG X tg (tGO X.K is g)
def GOs (X : Cx) (tg : List Expr) (is : List Nat) (g : GOsF) : Prop := PGs X tg (tGOs X.K is g)
def gNO (i : Nat) : GOF := fun o ω => some (ω.set i (some o))
def gNilO : GOsF := fun os ω => match os with
  | [] => some ω
  | _ => none
def gConsO (g : GOF) (gs : GOsF) : GOsF := fun os ω => match os with
  | o :: r => (g o ω).bind fun ω => gs r ω
  | [] => none
def gTO (n : Nat) (gs : GOsF) : GOF := fun o ω => match o with
  | .t os => if os.length = n then gs os ω else none
  | _ => none
section
variable {X : Cx} {W : WW} {pos : Pos}
end
/-! ### for -/
def loopTk (g : GOF) (body : VS) (cl : List Nat) : List O → VS
  | [], ω => .ok (.nx, ω)
  | o :: os, ω => match g o ω with
    | none => .no
    | some ω1 => bnd (body ω1) fun fl ω2 => match fl with
      | .nx => loopTk g body cl os (forget cl ω2)
      | .ct => loopTk g body cl os (forget cl ω2)
      | .bk => .ok (.nx, forget cl ω2)
      | .rt o => .ok (.rt o, ω2)
def cForTk (fe : EO) (g : GOF) (body : VS) (cl : List Nat) : VS := fun ω => bnd (fe ω) fun o ω => match o with
  | .l os => loopTk g body cl os (forget cl ω)
  | _ => .no
section
variable {X : Cx} {W : WW} {P : List Nat} {pos : Pos} {tg : Expr}
end
end VL
/-! VL: a comprehension that uses up a list of its own. -/
namespace VL
open PySem PySem.Spec PyProof.Rows L2 FL
def compTk (g : GOF) (c : EB) (f : EO) (vs : List Nat) : List O → Om → Option (List O × Om)
  | [], ω => some ([], ω)
  | t :: ts, ω => match g t ω with
    | none => none
    | some ω1 => match c ω1 with
      | .ok (true, ω2) => (match f ω2 with
        | .ok (o, ω3) => (compTk g c f vs ts (forget vs ω3)).map fun p => (o :: p.1, p.2)
        | _ => none)
      | .ok (false, ω2) => compTk g c f vs ts (forget vs ω2)
      | _ => none
def eCompTk (fe : EO) (g : GOF) (c : EB) (f : EO) (vs : List Nat) : EO := fun ω => bnd (fe ω) fun o ω => match o with
  | .l items => (match compTk g c f vs items (forget vs ω) with
    | some (os, ω') => if os.length ≤ sizeLine then .ok (.l os, ω') else .no
    | none => .no)
  | _ => .no
/-- what stands beside the slots: the new list D, the list a that is used up -/
structure Bes (K : Frg) (F H : Hp) (A : List Addr) (D a : Addr) (ws vs us : List V) (acc os : List O) (B C : List Addr) : Prop where
  hD : H D = some (.lst ws)
  fD : F D = none
  oB : Owns K F H ws acc B
  ha : H a = some (.lst vs)
  fa : F a = none
  oC : Owns K F H us os C
  nd : (D :: a :: (C ++ (B ++ A))).Nodup
section
variable {K : Frg} {F H F' H' : Hp} {A A' : List Addr} {D a : Addr} {ws vs us : List V} {acc os : List O} {B C : List Addr}
theorem Bes.outD (b : Bes K F H A D a ws vs us acc os B C) : D ≠ a ∧ D ∉ C ∧ D ∉ B ∧ D ∉ A := by
  have h := (List.nodup_cons.mp b.nd).1
  exact ⟨fun e => h (by rw [e]; exact List.mem_cons_self), fun z => h (List.mem_cons_of_mem _ (List.mem_append_left _ z)), fun z => h (List.mem_cons_of_mem _ (List.mem_append_right _ (List.mem_append_left _ z))), fun z => h (List.mem_cons_of_mem _ (List.mem_append_right _ (List.mem_append_right _ z)))⟩
theorem Bes.outA (b : Bes K F H A D a ws vs us acc os B C) : a ∉ C ∧ a ∉ B ∧ a ∉ A := by
  have h := (List.nodup_cons.mp (List.nodup_cons.mp b.nd).2).1
  exact ⟨fun z => h (List.mem_append_left _ z), fun z => h (List.mem_append_right _ (List.mem_append_left _ z)), fun z => h (List.mem_append_right _ (List.mem_append_right _ z))⟩
theorem Bes.parts (b : Bes K F H A D a ws vs us acc os B C) : C.Nodup ∧ B.Nodup ∧ A.Nodup ∧ (∀ x ∈ C, x ∉ B ∧ x ∉ A) ∧ ∀ x ∈ B, x ∉ A := by
  obtain ⟨n1, n2, n3⟩ := List.nodup_append.mp (List.nodup_cons.mp (List.nodup_cons.mp b.nd).2).2
  obtain ⟨m1, m2, m3⟩ := List.nodup_append.mp n2
  exact ⟨n1, m1, m2, fun x hx => ⟨fun z => n3 x hx x (List.mem_append_left _ z) rfl, fun z => n3 x hx x (List.mem_append_right _ z) rfl⟩, fun x hx z => m3 x hx x z rfl⟩
theorem bes_nd (hDa : D ≠ a) (hDC : D ∉ C) (hDB : D ∉ B) (hDA : D ∉ A) (haC : a ∉ C) (haB : a ∉ B) (haA : a ∉ A) (nC : C.Nodup) (nB : B.Nodup) (nA : A.Nodup) (hC : ∀ x ∈ C, x ∉ B ∧ x ∉ A) (hB : ∀ x ∈ B, x ∉ A) : (D :: a :: (C ++ (B ++ A))).Nodup := by
  refine List.nodup_cons.mpr ⟨fun z => ?_, List.nodup_cons.mpr ⟨fun z => ?_, nodup_join nC (nodup_join nB nA hB) fun x hx z => ?_⟩⟩
  · rcases List.mem_cons.mp z with z | z
    · exact hDa z
    · rcases List.mem_append.mp z with z | z
      · exact hDC z
      · exact (List.mem_append.mp z).elim hDB hDA
  · rcases List.mem_append.mp z with z | z
    · exact haC z
    · exact (List.mem_append.mp z).elim haB haA
  · exact (List.mem_append.mp z).elim (hC x hx).1 (hC x hx).2
theorem Bes.step (b : Bes K F H A D a ws vs us acc os B C) (s : VStep F A H F' A' H') (n' : A'.Nodup) : Bes K F' H' A' D a ws vs us acc os B C := by
  obtain ⟨d1, d2, d3, d4⟩ := b.outD
  obtain ⟨a1, a2, a3⟩ := b.outA
  obtain ⟨nC, nB, nA, hC, hB⟩ := b.parts
  have fn : ∀ {x : Addr} {u : HO}, H x = some u → x ∉ A → F x = none → F' x = none := fun {x u} hx hn hf => by
    cases q : F' x with
    | none => rfl
    | some w =>
      rcases s.fnew x w q with z | z | z
      · rw [hf] at z; cases z
      · exact absurd z hn
      · rw [hx] at z; cases z
  have an : ∀ {x : Addr} {u : HO}, H x = some u → x ∉ A → x ∉ A' := fun {x u} hx hn z => by
    rcases s.anew x z with y | y
    · exact hn y
    · rw [hx] at y; cases y
  refine ⟨s.keep D _ b.hD d4, fn b.hD d4 b.fD, b.oB.frame hB s, s.keep a _ b.ha a3, fn b.ha a3 b.fa, b.oC.frame (fun x hx => (hC x hx).2) s, bes_nd d1 d2 d3 (an b.hD d4) a1 a2 (an b.ha a3) nC nB n' (fun x hx => ⟨(hC x hx).1, ?_⟩) fun x hx => ?_⟩
  · obtain ⟨⟨u, hu, _⟩, _⟩ := b.oC.at x hx
    exact an hu (hC x hx).2
  · obtain ⟨⟨u, hu, _⟩, _⟩ := b.oB.at x hx
    exact an hu (hB x hx)
/-- the next item leaves for the slots -/
theorem Bes.take {v : V} {o : O} {us : List V} (b : Bes K F H A D a ws vs (v :: us) acc (o :: os) B C) : ∃ C1 C2, C = C1 ++ C2 ∧ Own K F H v o C1 ∧ (C1 ++ A).Nodup ∧ ∀ A', (∀ x ∈ A', x ∈ C1 ++ A) → A'.Nodup → Bes K F H A' D a ws vs us acc os B C2 := by
  obtain ⟨d1, d2, d3, d4⟩ := b.outD
  obtain ⟨a1, a2, a3⟩ := b.outA
  obtain ⟨nC, nB, nA, hC, hB⟩ := b.parts
  obtain ⟨e1, e2, e3, e4, e5, oC, _⟩ := b
  cases oC with
  | @cons _ _ C1 _ _ C2 ow ows =>
  obtain ⟨m1, m2, m3⟩ := List.nodup_append.mp nC
  refine ⟨C1, C2, rfl, ow, nodup_join m1 nA fun x hx => (hC x (List.mem_append_left _ hx)).2, fun A' h' n' => ?_⟩
  refine ⟨e1, e2, e3, e4, e5, ows, bes_nd d1 (fun z => d2 (List.mem_append_right _ z)) d3 (fun z => ?_) (fun z => a1 (List.mem_append_right _ z)) a2 (fun z => ?_) m2 nB n' (fun x hx => ⟨(hC x (List.mem_append_right _ hx)).1, fun z => ?_⟩) fun x hx z => ?_⟩
  · rcases List.mem_append.mp (h' D z) with y | y
    · exact d2 (List.mem_append_left _ y)
    · exact d4 y
  · rcases List.mem_append.mp (h' a z) with y | y
    · exact a1 (List.mem_append_left _ y)
    · exact a3 y
  · rcases List.mem_append.mp (h' x z) with y | y
    · exact m3 x y x hx rfl
    · exact (hC x (List.mem_append_right _ hx)).2 y
  · rcases List.mem_append.mp (h' x z) with y | y
    · exact (hC x (List.mem_append_left _ y)).1 hx
    · exact hB x hx y
/-- a new item joins D -/
theorem Bes.put {v : V} {o : O} {E : List Addr} (b : Bes K F H A D a ws vs us acc os B C) (ow : Own K F H v o E) (nE : E.Nodup) (hE : ∀ x ∈ E, x ≠ D ∧ x ≠ a ∧ x ∉ C ∧ x ∉ B ∧ x ∉ A) : Bes K F (upd H D (.lst (ws ++ [v]))) A D a (ws ++ [v]) vs us (acc ++ [o]) os (B ++ E) C := by
  obtain ⟨d1, d2, d3, d4⟩ := b.outD
  obtain ⟨a1, a2, a3⟩ := b.outA
  obtain ⟨nC, nB, nA, hC, hB⟩ := b.parts
  have keep : ∀ x, x ≠ D → (upd H D (.lst (ws ++ [v]))) x = H x := fun x hx => by rw [upd_ne hx]
  refine ⟨upd_same, b.fD, ?_, by rw [keep a fun e => d1 e.symm]; exact b.ha, b.fa, b.oC.move (fun _ _ h => h) fun x hx => ⟨(b.oC.at x hx).2, keep x fun e => d2 (e ▸ hx)⟩, ?_⟩
  · have m1 : Owns K F (upd H D (.lst (ws ++ [v]))) ws acc B := b.oB.move (fun _ _ h => h) fun x hx => ⟨(b.oB.at x hx).2, keep x fun e => d3 (e ▸ hx)⟩
    have m2 : Own K F (upd H D (.lst (ws ++ [v]))) v o E := ow.move (fun _ _ h => h) fun x hx => ⟨(ow.at x hx).2, keep x (hE x hx).1⟩
    have := m1.append (.cons m2 .nil)
    rwa [List.append_nil] at this
  · refine bes_nd d1 d2 (fun z => (List.mem_append.mp z).elim d3 fun y => (hE D y).1 rfl) d4 a1 (fun z => (List.mem_append.mp z).elim a2 fun y => (hE a y).2.1 rfl) a3 nC (nodup_join nB nE fun x hx z => (hE x z).2.2.2.1 hx) nA (fun x hx => ⟨fun z => ?_, (hC x hx).2⟩) fun x hx => ?_
    · rcases List.mem_append.mp z with y | y
      · exact (hC x hx).1 y
      · exact (hE x y).2.2.1 hx
    · rcases List.mem_append.mp hx with y | y
      · exact hB x y
      · exact (hE x y).2.2.2.2
end
/-- a step of a part, seen from the start -/
theorem VStep.part {F H F2 H2 F6 H6 : Hp} {A Z A3 A6 Z' : List Addr} (S : VStep F A H F2 Z H2) (h : ∀ b ∈ A3, b ∈ Z) (s : VStep F2 A3 H2 F6 A6 H6) (hz : ∀ b ∈ Z', b ∈ Z ∨ b ∈ A6) : VStep F A H F6 Z' H6 := by
  refine ⟨fun b o e => s.fsub b o (S.fsub b o e), fun b o e => ?_, fun b hb => ?_, fun b o e hn => ?_, fun b e => S.alive b (s.alive b e)⟩
  · rcases s.fnew b o e with z | z | z
    · exact S.fnew b o z
    · exact .inr (S.anew b (h b z))
    · exact .inr (.inr (S.alive b z))
  · rcases hz b hb with z | z
    · exact S.anew b z
    · rcases s.anew b z with y | y
      · exact S.anew b (h b y)
      · exact .inr (S.alive b y)
  · refine s.keep b o (S.keep b o e hn) fun z => ?_
    rcases S.anew b (h b z) with y | y
    · exact hn y
    · rw [y] at e; cases e
section
variable {X : Cx} {W : WW}
end
end VL
/-! VL: stepping rules for lists that are used up. -/
namespace VL
open PySem PySem.Spec PyProof.Rows L2 FL
section
variable {α : Type} {ω ω1 : Om} {nx ct bk : Om → Prop} {rt : O → Om → Prop} {cl vs : List Nat} {g : GOF} {fi fo : EO} {f : VS} {fc : EB} {Q : O → Om → Prop}
end
end VL
/-! VL: try: .. except C: .. without a name. -/
namespace VL
open PySem PySem.Spec PyProof.Rows L2 FL
def suite0 : RX Fl → RX Fl
  | .ok r => .ok r
  | _ => .no
def cTry0 (T : CTab) (f h : VS) : VS := fun ω => match f ω with
  | .ex (x, ω') => (match T.lookup x.c with
    | some true => suite0 (h ω')
    | some false => .ex (x, ω')
    | none => .no)
  | r => r
section
variable {X : Cx} {W : WW} {P : List Nat} {T : CTab} {fb fh : VS} {y : Str} {c : Value} {b0 : Stmt} {body suite : List Stmt} {np pos pos' : Pos}
end
section
variable {T : CTab} {f h : VS} {ω ω1 : Om} {x : Exn} {nx ct bk : Om → Prop} {rt : O → Om → Prop}
end
end VL
/-! VL: g(t[k], ..), where t owns a tuple and g changes its part k. -/
namespace VL
open PySem PySem.Spec PyProof.Rows L2 FL
/-- g is called with part k of the tuple in slot t and with data; the part is what g leaves of it -/
def eCallP (f : MFn) (n t k : Nat) (fs : EAF) : EO := fun ω => match ω[t]? with
  | some (some (.t os0)) => match os0[k]? with
    | some _ => bnd (fs ω) fun ds ω => match ω[t]? with
      | some (some (.t os)) => match os[k]? with
        | some o => if (o :: ds.map O.d).length = n then (match f (o :: ds.map O.d) with
          | .ok (r, [o']) => .ok (r, ω.set t (some (.t (os.set k o'))))
          | _ => .no) else .no
        | none => .no
      | _ => .no
    | none => .no
  | _ => .no
section
variable {X : Cx} {W : WW} {e : Expr} {es : List Expr}
end
section
variable {ω ω1 ω2 : Om} {t k n : Nat} {f : MFn} {fs : EAF} {os0 os : List O} {o o0 o' r : O} {ds : List D} {Q : O → Om → Prop}
end
end VL
/-! VL: for x in t[k:], where t owns a tuple: its parts are used up. -/
namespace VL
open PySem PySem.Spec PyProof.Rows L2 FL
/-- t[k:] of the tuple in slot t, as a tuple of its parts; the slot shows nothing more -/
def eCutT (t k : Nat) : EO := fun ω => match ω[t]? with
  | some (some (.t os)) => if 1 ≤ k ∧ k ≤ os.length then .ok (.t (os.drop k), ω.set t none) else .no
  | _ => .no
section
variable {X : Cx} {W : WW}
end
def cForTkT (fe : EO) (g : GOF) (body : VS) (cl : List Nat) : VS := fun ω => bnd (fe ω) fun o ω => match o with
  | .t os => loopTk g body cl os (forget cl ω)
  | _ => .no
section
variable {X : Cx} {W : WW} {P : List Nat} {pos : Pos} {tg : Expr}
end
section
variable {α : Type} {ω ω1 : Om} {nx ct bk : Om → Prop} {rt : O → Om → Prop} {cl vs : List Nat} {g : GOF} {fi fo : EO} {f : VS} {fc : EB} {Q : O → Om → Prop}
end
end VL
/-! VL: x = t[k]; x[j] = c; x.append(d), where t owns a list whose item k is a list; c, d are numbers. -/
namespace VL
open PySem PySem.Spec PyProof.Rows L2 FL
/-- item k of the list in slot t: its item j is c, and d is one item more; slot i shows nothing -/
def cRowI (i t k j : Nat) (c d : Int) : VS := fun ω => if ω.length ≤ i then .no else match ω[t]? with
  | some (some (.l os)) => match os[k]? with
    | some (.l xs) => if j < xs.length ∧ xs.length < sizeLine then .ok (.nx, (ω.set i none).set t (some (.l (os.set k (.l (xs.set j (.d (.int c)) ++ [.d (.int d)])))))) else .no
    | _ => .no
  | _ => .no
section
variable {X : Cx} {W : WW} {P : List Nat} {g : VS} {rest : List Stmt} {x y : Str} {p1 p2 p3 p4 p5 p6 p7 p8 p9 q1 q2 apos cpos pos1 pos2 pos3 : Pos}
end
section
variable {os xs : List O} {ω ω2 : Om} {i t k j : Nat} {c d : Int} {g : VS} {nx ct bk : Om → Prop} {rt : O → Om → Prop}
end
end VL
/-! VL: a, b = e where e gives a tuple of objects; t[k] of an owned tuple as an object; for x in t over an owned tuple that keeps its parts. -/
namespace VL
open PySem PySem.Spec PyProof.Rows L2 FL
def cAsgG (fe : EO) (g : GOF) : VS := fun ω => bnd (fe ω) fun o ω => match g o ω with
  | some ω' => .ok (.nx, ω')
  | none => .no
/-- part k of the tuple in slot t; the slot shows nothing more -/
def cMvP (t k : Nat) : EO := fun ω => match ω[t]? with
  | some (some (.t os)) => match os[k]? with
    | some o => .ok (o, ω.set t none)
    | none => .no
  | _ => .no
section
variable {X : Cx} {W : WW} {P : List Nat} {pos : Pos} {tg e : Expr}
end
end VL
/-! VL: for x in t over an owned tuple, which keeps its parts: in the body x shows a part, t shows nothing. -/
namespace VL
open PySem PySem.Spec PyProof.Rows L2 FL
def loopBw (t i : Nat) (body : VS) (cl : List Nat) : List O → List O → VS
  | ds, [], ω => .ok (.nx, ω.set t (some (.t ds)))
  | ds, o :: os, ω => if ω.length ≤ i then .no else bnd (body (ω.set i (some o))) fun fl ω2 => match fl with
    | .rt r => .ok (.rt r, ω2)
    | .bk => .no
    | .nx => (match ω2[i]? with
      | some (some o') => loopBw t i body cl (ds ++ [o']) os (forget cl (ω2.set i none))
      | _ => .no)
    | .ct => (match ω2[i]? with
      | some (some o') => loopBw t i body cl (ds ++ [o']) os (forget cl (ω2.set i none))
      | _ => .no)
def cForBw (t i : Nat) (body : VS) (cl : List Nat) : VS := fun ω => match ω[t]? with
  | some (some (.t os)) => loopBw t i body cl [] os (forget cl (ω.set t none))
  | _ => .no
section
variable {X : Cx} {W : WW} {P : List Nat} {pos p1 p2 : Pos}
end
section
variable {α : Type} {ω ω1 : Om} {nx ct bk : Om → Prop} {rt : O → Om → Prop} {cl : List Nat} {t i : Nat} {f : VS}
end
end VL
/-! VL: calls with keywords of defs that may raise. -/
namespace L2
open PySem PySem.Spec PyProof.Rows
def tCallNS (n m : Nat) (sp : Sp) (gV : List V → List V → List V) (E : St → XK) (t tk : TA) : TE := fun σ H Q => t σ H fun vs H1 => tk σ H1 fun zs H2 => vs.length = n ∧ zs.length = m ∧ sp (gV vs zs) H2 Q (E σ)
section
variable {X : Cx} {CX : CXT} {k n : Nat} {f : Addr} {fd : FuncData} {ps ks : List Str} {sp : Sp} {E : St → XK} {x : Str} {p pos : Pos} {e : Expr} {es : List Expr} {kws : List Keyword} {t tk : TA} {g : List Value → List Value → List Value} {gV : List V → List V → List V}
end
end L2
namespace VL
open PySem PySem.Spec PyProof.Rows L2 FL
def cCallGX (f : PFn) (n m l : Nat) (g : List D → List D → List D) (fs gs : PAF) : POF := fun σ => (fs σ).bind fun ds => (gs σ).bind fun es => if ds.length = n ∧ es.length = m ∧ (g ds es).length = l then f (g ds es) else .no
section
variable {X : Cx} {W : WW} {k n : Nat} {x : Str} {a : Addr} {d : Dx} {ps ks : List Str} {pf : PFn} {p pos : Pos} {e : Expr} {es : List Expr} {kw : List Keyword} {fs gs : PAF}
end
def callGXR (f : PFn) (n m l : Nat) (g : List D → List D → List D) (x y : R Exn (List D)) : R Exn O := x.bind fun ds => y.bind fun es => if ds.length = n ∧ es.length = m ∧ (g ds es).length = l then f (g ds es) else .no
end VL
/-! VL: a place in a part of an owned tuple (t[0].append(x)). -/
namespace VL
open PySem PySem.Spec PyProof.Rows L2 FL
section
variable {X : Cx} {W : WW} {p3 pos : Pos}
def pIxT (pl : PlF) (k : Nat) : PlF := fun ω => match pl ω with
  | some q => (match subO ω q with
    | some (.t os) => if k < os.length then some (q.1, q.2 ++ [k]) else none
    | _ => none)
  | none => none
theorem lp_ixT {a : Expr} {pl : PlF} {k : Nat} {kz : Int} {jz : Nat} (ha : LPl X a pl) (hkz : kz = (k : Int) := by rfl) : LPl X (.Subscript a (.Constant (.int kz) jz p3) pos) (pIxT pl k) := by
  subst hkz
  refine FL.PE.imp (pe_ix L2.ix_seq ha pe_int (fun _ _ => rfl)) fun τ H Q ⟨F, A, ω, q, r, e, k0⟩ => ?_
  unfold pIxT at e
  split at e
  case h_2 => cases e
  rename_i q0 hq
  split at e
  case h_2 => cases e
  rename_i os ho
  split at e
  case isFalse => cases e
  rename_i hk
  cases e
  refine ⟨F, A, ω, q0, r, hq, fun F1 H1 v s1 r1 hs1 at1 => ?_⟩
  obtain ⟨v0, hv0, sv⟩ := at1
  obtain ⟨B, ow, hB⟩ := r1.subO ⟨v0, hv0, sv⟩ ho
  cases ow with
  | @t a vs _ _ g1 g3 =>
    have hlen := g3.length
    have hkl : k < vs.length := by rw [hlen]; exact hk
    have hv : vs[k]? = some vs[k] := List.getElem?_eq_getElem hkl
    refine .inr (.inl ⟨a, vs, k, vs[k], rfl, rfl, .of (r1.sub _ _ g1), atI_pk hv, ?_⟩)
    exact k0 _ H1 _ s1 r1 hs1 ⟨v0, hv0, .snocT (r1.sub _ _ g1) hv sv⟩
end
section
variable {ω ω2 : Om} {nx ct bk : Om → Prop} {rt : O → Om → Prop} {t k : Nat} {g : VS} {f : PEF} {os os2 : List O} {d : D}
/-- t[k].append(d) -/
theorem t_appT (h0 : ω[t]? = some (some (.t os))) (hk : os[k]? = some (.l os2)) (hl : os2.length < sizeLine) (e : f (viewA ω) = .ok d) (hd : flat d = true) (s : ω.set t (some (.t (os.set k (.l (os2 ++ [.d d]))))) = ω2) (kk : W (g ω2) nx ct bk rt) : W (cSeq (cAppP (pIxT (pV t) k) f) g ω) nx ct bk rt := by
  have hkl : k < os.length := (List.getElem?_eq_some_iff.mp hk).1
  have e0 : pV t ω = some (t, []) := by
    unfold pV
    rw [h0]
  have e1 : subO ω (t, []) = some (.t os) := by
    unfold subO
    rw [h0]
    rfl
  have e2 : pIxT (pV t) k ω = some (t, [k]) := by
    unfold pIxT
    rw [e0]
    simp only [e1, if_pos hkl]
    rfl
  have e3 : subO ω (t, [k]) = some (.l os2) := by
    unfold subO
    rw [h0]
    show (os[k]?).bind _ = _
    rw [hk]
    rfl
  have e4 : putO ω (t, [k]) (.l (os2 ++ [.d d])) = ω2 := by
    unfold putO
    simp only [h0]
    rw [← s]
    show ω.set t (some (match os[k]? with | some o => .t (os.set k (setP o [] (.l (os2 ++ [.d d])))) | none => .t os)) = _
    rw [hk]
    rfl
  refine w_seq ?_
  have e5 : cAppP (pIxT (pV t) k) f ω = .ok (.nx, ω2) := by
    unfold cAppP
    rw [e2, e]
    simp only [e3]
    rw [if_pos ⟨hl, hd⟩, e4]
  exact w_of e5 kk
end
end VL
/-! VL: x = t[e] and the rest of the suite, t an owned tuple: in the rest x shows the part, t shows nothing. -/
namespace VL
open PySem PySem.Spec PyProof.Rows L2 FL
def borB (t i k : Nat) (os : List O) (q : Fl × Om) : RX Fl := match q with
  | (.rt r, ω2) => .ok (.rt r, ω2)
  | (.bk, _) => .no
  | (fl, ω2) => match ω2[i]? with
    | some (some o') => .ok (fl, (ω2.set i none).set t (some (.t (os.set k o'))))
    | _ => .no
def cBor (i t : Nat) (fk : PEF) (body : VS) : VS := fun ω => if ω.length ≤ i then .no else match ω[t]?, fk (viewA ω) with
  | some (some (.t os)), .ok (.int j) => (match ixN os.length j with
    | some k => (match os[k]? with
      | some o => bnd (body ((ω.set t none).set i (some o))) fun fl ω2 => borB t i k os (fl, ω2)
      | none => .no)
    | none => .no)
  | _, _ => .no
section
variable {X : Cx} {W : WW} {P : List Nat} {rest : List Stmt} {x y : Str} {p1 p2 p4 pos1 : Pos} {e : Expr} {fk : PEF} {g : VS}
end
section
variable {ω : Om} {nx ct bk : Om → Prop} {rt : O → Om → Prop} {t i k : Nat} {g : VS} {f : PEF} {os : List O} {o : O} {j : Int}
end
end VL
/-! VL: an instance made of arguments that change something (draws). -/
namespace VL
open PySem PySem.Spec PyProof.Rows L2 FL
def eMake (c : Str) (f : MFn) (l : Nat) (dds : List D) (fs : EAF) : EO := fun ω => bnd (fs ω) fun ds ω => if (ds ++ dds).length = l then (match madeR c f (ds ++ dds) with
  | .ok o => .ok (o, ω)
  | _ => .no) else .no
section
variable {X : Cx} {W : WW} {k n : Nat} {x c : Str} {a : Addr} {d : Dx} {ps : List Str} {f : MFn} {p pos : Pos} {e : Expr} {es : List Expr} {fs : EAF} {dds : List D}
end
section
variable {ω : Om} {fs : EAF} {c : Str} {f : MFn} {l : Nat} {dds : List D} {QO : O → Om → Prop}
end
end VL
/-! VL: a text in a tuple of texts. -/
namespace VL
open PySem PySem.Spec PyProof.Rows L2 FL
def allS : List D → Option (List Str)
  | [] => some []
  | .str s :: ds => (allS ds).map (s :: ·)
  | _ => none
def gInSG (neg : Bool) : G2 := fun x y => match x, y with
  | .str i, .tup ds => (allS ds).map fun ks => .d (.bl (if neg then !decide (i ∈ ks) else decide (i ∈ ks)))
  | _, _ => none
abbrev gInTS : G2 := gInSG false
abbrev gNotInTS : G2 := gInSG true
section
variable {X : Cx}
end
end VL
/-! VL: `if c: xs.append((y, e))` and `z = ez` behind it, where y's object goes into xs and ez may still look at it; list(xs) of a slot's own list whose items stay objects; sorted of such a list. -/
namespace VL
open PySem PySem.Spec PyProof.Rows L2 FL
/-- slot zi gets what f gives where slot yi shows d -/
def setZ (zi yi : Nat) (f : POF) (d : D) : VS := fun ω => match f ((viewA ω).set yi (some d)) with
  | .ok o => if flatO o = true then .ok (.nx, ω.set zi (some o)) else .no
  | _ => .no
def cMvK (xi yi zi : Nat) (fc : EB) (fe : EV) (fz : POF) : VS := fun ω => bnd (fc ω) fun b ω => if b = true then (match ω[yi]?, ω[xi]? with
    | some (some _), some (some (.l _)) => bnd (fe ω) fun d ω => match ω[yi]?, ω[xi]? with
      | some (some oy), some (some (.l os)) => if os.length < sizeLine then setZ zi yi fz (frz oy) ((ω.set yi none).set xi (some (.l (os ++ [.t [oy, .d d]])))) else .no
      | _, _ => .no
    | _, _ => .no)
  else match ω[yi]? with
    | some (some oy) => setZ zi yi fz (frz oy) ω
    | _ => .no
section
variable {X : Cx} {W : WW} {P : List Nat}
end
/-! ### list(xs), xs a slot's own list: the items stay objects -/
def cLstMv (i : Nat) : EO := fun ω => match ω[i]? with
  | some (some (.l os)) => .ok (.l os, ω.set i none)
  | _ => .no
section
variable {X : Cx} {W : WW}
/-! ### sorted of a new list, whose items stay objects, of an expression that changes -/
def eSortO (f : EO) : EO := fun ω => bnd (f ω) fun o ω => match o with
  | .l os => if sortB (os.map frz) = true then .ok (.l (os.mergeSort leO), ω) else .no
  | _ => .no
end
section
variable {ω ω1 ω2 : Om} {xi yi zi i : Nat} {fc : EB} {fe : EV} {fz : POF} {oy o : O} {os : List O} {d : D} {nx ct bk : Om → Prop} {rt : O → Om → Prop} {Q : O → Om → Prop}
end
end VL
/-! VL: `in` of a list or of a tuple of ints. -/
namespace VL
open PySem PySem.Spec PyProof.Rows L2 FL
def gNotInA : G2 := fun x y => match gNotIn x y with
  | some o => some o
  | none => gNotInT x y
def gInA : G2 := fun x y => match gIn x y with
  | some o => some o
  | none => gInT x y
end VL
/-! VL: room for `in` of mixed sequences; list(a list or a tuple) where an exception is handled. -/
namespace VL
open PySem PySem.Spec PyProof.Rows L2 FL
end VL
/-! VL: repr of data. A list's repr looks at what is being shown already: the defs that call it want a stack without such calls (FnG, OkG). -/
namespace VL
open PySem PySem.Spec PyProof.Rows L2 FL
/-! ### the machine -/
def rprB (p : PyData) : Bool := p.showable && (!p.hasDict && (decide (p.depth ≤ 30) && decide (p.shown.length ≤ 16777216)))
theorem call_repr_dp {X : Cx} (hG : X.A.guards = some []) (hu : X.A.units + 64 < cLine) : CallR X (.builtin "repr") (fun xs H Q => ∃ x p, xs = [x] ∧ Dp X.K H x p ∧ rprB p = true ∧ Q (.str p.shown) H) := by
  intro pins s σ H xs us Q I r ⟨x, p, ex, hd, hb, q⟩
  subst ex
  cases r with
  | cons r1 r2 =>
    cases r2
    rename_i u
    obtain ⟨as, rd⟩ := Dp.reads I p x u hd r1
    obtain ⟨b1, hb⟩ := He.ba hb
    obtain ⟨b2, hb⟩ := He.ba hb
    obtain ⟨b3, b4⟩ := He.ba hb
    have b2 : p.hasDict = false := by cases h : p.hasDict with
      | false => rfl
      | true => rw [h] at b2; cases b2
    have b3 := of_decide_eq_true b3
    have b4 : p.shown.length ≤ sizeLine := by rw [sizeLine_eq]; exact of_decide_eq_true b4
    have big : isDisplay p = true → wpAny (model X.prog X.w) X.A (call (.builtin "repr") [u]) (EP X pins σ Q) X.xe s := fun hdp => by
      obtain ⟨a, e⟩ := isRef_of_reads rd hdp
      subst e
      exact repr_of_reads' rd b1 (PyData.noDict_hsm b2) hG (by omega) (fun _ _ e => e) (fun h' t tk hk => ⟨.str _, H, I.kept hk, ⟨_, rfl⟩, q⟩) b4
    cases p with
    | none =>
      cases rd
      exact PySem.P.repr_of_none ⟨.str _, H, I.tok _, ⟨_, rfl⟩, q⟩
    | bool b =>
      cases rd
      exact PySem.P.repr_of_bool ⟨.str _, H, I.tok _, ⟨_, rfl⟩, q⟩
    | int i =>
      cases rd
      exact PySem.P.repr_of_int (of_decide_eq_true b1) ⟨.str _, H, I.tok _, ⟨_, rfl⟩, q⟩
    | str y =>
      cases rd
      exact PySem.P.repr_of_str ⟨.str _, H, I.tok _, ⟨_, rfl⟩, q⟩ b4
    | list ds => exact big rfl
    | tuple ds => exact big rfl
    | dict ds => cases b2
def gRepr : GL := g1 fun d => (pyD d).bind fun p => if rprB p = true then some (.d (.str p.shown)) else none
theorem v_repr {X : Cx} (hG : X.A.guards = some []) (hu : X.A.units + 64 < cLine) : VCall X (.builtin "repr") gRepr := by
  refine CallR.imp (call_repr_dp hG hu) fun vs H Q ⟨F, ds, o, s, rs, e, k⟩ => ?_
  obtain ⟨d, rfl, h⟩ := g1_some e
  obtain ⟨p, e1, h⟩ := Option.bind_eq_some_iff.mp h
  split at h
  case isFalse => cases h
  rename_i hb
  cases h
  cases rs with
  | cons a b =>
    cases b
    exact ⟨_, p, rfl, pyD_ok s a e1, hb, k F H _ [] (.refl s) (.d (.str _)) ⟨List.nodup_nil, fun b h => by simp at h⟩⟩
/-! ### defs that are called where nothing is being shown -/
structure FnG (P : Program) (w : World) (K : Frg) (mg : Str → Option Value) (base : Heap) (k : Nat) (f : Addr) (fd : FuncData) (ps : List Str) (sp : Sp) : Prop where
  len : ∀ vs H Q E, sp vs H Q E → vs.length = ps.length
  run : ∀ (A : Around) (outer : List Env) (s : Shared) (H : Hp) (args : Args) (us : List Value) (vs : List V) (Q : VK) (E : XK), A.guards = some [] → Room k A → Env0 P w K mg base A outer s H → BindsTo s fd args (ps.zip us) → Vals vs us → sp vs H Q E → codeAny (model P w) A (.call (.ref f) args) (CR CX0 outer P w H s Q E) s
section
variable {P : Program} {w : World} {K : Frg} {mg : Str → Option Value} {base : Heap} {k : Nat} {f : Addr}
theorem FnG.mono {j : Nat} {fd : FuncData} {ps : List Str} {sp : Sp} (F : FnG P w K mg base j f fd ps sp) (h : j ≤ k) : FnG P w K mg base k f fd ps sp := ⟨F.len, fun A outer s H args us vs Q E hG hr => F.run A outer s H args us vs Q E hG (hr.mono h)⟩
theorem fn_ofG {name qual : Str} {params : Arguments} {body : List Stmt} {scope : Scope} {dV kV doc pm cdv ct oc : Value} {an od : Option Addr} {osl : Array (Option Value)} {N ps : List Str} {sp : Sp}
    (lk : K.lookup f = some ⟨oc, od, .func (PySem.W.fnOf name qual params body scope dV kV doc pm an cdv ct), osl⟩) (hcd : PySem.W.codeIn K cdv qual = true) (S : FnScope N ps scope) (len : ∀ vs H Q E, sp vs H Q E → vs.length = ps.length)
    (hbody : ∀ (A : Around) (outer : List Env) (s : Shared) (H : Hp) (vs : List V) (Q : VK) (E : XK), A.guards = some [] → Room k (A.deeper (envOfC qual scope s.heap.objs.size f cdv)) → sp vs H Q E →
      ∃ t, PSs (cxOf CX0 P w K mg base N qual scope f cdv A outer s H E) body t ∧ t { nx := fun _ H' => Q .non H', rt := Q } (L2.start N vs) H) :
    FnG P w K mg base (k + 1) f (PySem.W.fnOf name qual params body scope dV kV doc pm an cdv ct) ps sp := by
  refine ⟨len, fun A outer s H args us vs Q E hG hr e0 hb r hsp => ?_⟩
  have up : ∀ b o, base.get? b = some o → s.heap.get? b = some o := fun b o e => (e0.bs b o e).1
  have kin : K.In s.heap := e0.mod.kin.keeps up
  have kinds : ∀ y ∈ ps.zip us, scope.names.lookup y.1 = some .local ∨ (scope.names.lookup y.1 = some .cell ∧ ((cellsFrom (s.heap.objs.size + 1) scope.names []).lookup y.1).isSome = true) := by
    rintro ⟨n, v⟩ hy
    have hn := (List.of_mem_zip hy).1
    cases S.par n hn with
    | inl q => exact .inl q
    | inr q => exact .inr ⟨q, PySem.W.cellsFrom_some _ _ _ (.inl q)⟩
  refine codeAny_call_function hr.depth (kin _ _ lk) rfl S.co S.gen rfl (PySem.W.codeRec_of kin hcd) (hb _ _ _ _ ?_)
  refine wpAny_newFunctionEnv_cells S.kind kinds fun env he s1 x => ?_
  subst he
  refine ⟨(e0.mod.nolimit.keeps up).keeps x.toInCall.keep, codeAny_func ?_⟩
  obtain ⟨t, ht, hq⟩ := hbody A outer s H vs Q E hG (hr.deeper _) hsp
  have I : Inv (cxOf CX0 P w K mg base N qual scope f cdv A outer s H E) [] (L2.start N vs) H s1 := inv_start S hr.hd e0 (len _ _ _ _ hsp) r x
  refine wpAny_mono (ht.run [] s1 (L2.start N vs) H _ I hq) (fun fl s' hs => ?_) fun e s' hs => hs
  cases fl with
  | next => exact let ⟨σ', H', J, q⟩ := hs; (⟨V.non, H', J.os, J.bare, J.base, J.hok, rfl, q⟩ : CE outer P w H s Q .none s')
  | ret u => exact let ⟨v, σ', H', J, rv, q⟩ := hs; (⟨v, H', J.os, J.bare, J.base, J.hok, rv, q⟩ : CE outer P w H s Q u s')
  | brk => exact let ⟨_, _, _, q⟩ := hs; False.elim q
  | cont => exact let ⟨_, _, _, q⟩ := hs; False.elim q
end
structure OkG (P : Program) (w : World) (K : Frg) (mg : Str → Option Value) (k : Nat) (x : Str) (ps : List Str) (f : PFn) : Prop where
  ex : ∃ fd, (∀ base : Heap, FnG P w K mg base k (He.ga K x) fd ps (spP K ps.length f)) ∧ Binds K fd ps [] ∧ ∀ (s : Shared) (us : List Value), us.length = ps.length → BindsTo s fd ⟨us, []⟩ (ps.zip us)
  kp : PySem.W.keepIn K (.ref (He.ga K x)) = true
  g : mg x = some (.ref (He.ga K x))
theorem mkG {P : Program} {w : World} {K : Frg} {mg : Str → Option Value} {x : Str} {params : Arguments} {body : List Stmt} {scope : Scope} {N ps : List Str} {k : Nat} {g : VS} (F : ∃ fd, FunD K x x params body scope [] [] (He.ga K x) fd) (hg : mg x = some (.ref (He.ga K x))) (S : FnScope N ps scope)
    (hb : ∀ (kV doc pm : Value) (an : Option Addr) (cdv ct : Value) (us : List Value), us.length = ps.length → bindArgs (PySem.W.fnOf x x params body scope .none kV doc pm an cdv ct) ⟨us, []⟩ = pure (ps.zip us))
    (hbody : ∀ (base : Heap) (cdv : Value) (A : Around) (outer : List Env) (s : Shared) (H : Hp) (E : XK), Room k (A.deeper (envOfC x scope s.heap.objs.size (He.ga K x) cdv)) → A.guards = some [] → SVs (cxOf CX0 P w K mg base N x scope (He.ga K x) cdv A outer s H E).nox W0 [] body g) :
    OkG P w K mg (k + 1) x ps (fnP N.length g) := by
  obtain ⟨fd, F⟩ := F
  refine ⟨⟨fd, fun base => ?_, F.bindsN hb, fun s us hl => FunD.bindsA F hb s us hl⟩, F.kp, hg⟩
  obtain ⟨oc, od, dV, kV, doc, pm, an, cdv, ct, osl, rfl, lk, hcd, hD, hK⟩ := F.ex
  refine fn_ofG lk hcd S (fun vs H Q E h => ?_) fun A outer s H vs Q E hG hr h => ⟨_, PSs.nox (hbody base cdv A outer s H E hr hG), ?_⟩
  · obtain ⟨F, ds, s, rs, hn, _⟩ := h
    rw [rs.length, hn]
  · obtain ⟨F, ds, s, rs, hn, k⟩ := h
    have st := start_ok (N := N) (Reps.owns (H := H) rs)
    refine ⟨F, [], startO N.length (ds.map .d), ⟨s, st, List.nodup_nil⟩, ?_⟩
    have up : ∀ {F' A' H'}, VStep F [] H F' A' H' → Sub F' H' → PStep F H F' H' := fun {F' A' H'} s1 s2 => ⟨s1.fsub, fun b o h => by
      rcases s1.fnew b o h with z | z | z
      · exact .inl z
      · simp at z
      · exact .inr z, fun b o h => s1.keep b o h (by simp), s2⟩
    unfold fnP at k
    cases q : g (startO N.length (ds.map .d)) with
    | ok p =>
      obtain ⟨fl, ω⟩ := p
      rw [q] at k
      cases fl with
      | nx => exact fun F' A' H' τ' s1 r1 _ => k F' H' .non [] (up s1 r1.sub) (.d .non) ⟨List.nodup_nil, fun b h => by simp at h⟩
      | rt o => exact fun F' A' B H' v τ' s1 r1 _ ow nd => k F' H' v B (up s1 r1.sub) ow ⟨(List.nodup_append.mp nd).1, fun b hb => (s1.anew b (List.mem_append_left _ hb)).elim (fun z => by simp at z) id⟩
      | bk => exact k.elim
      | ct => exact k.elim
    | ex x => rw [q] at k; exact k.elim
    | no => rw [q] at k; exact k.elim
theorem OkG.mono {P : Program} {w : World} {K : Frg} {mg : Str → Option Value} {j k : Nat} {x : Str} {ps : List Str} {f : PFn} (O : OkG P w K mg j x ps f) (h : j ≤ k) : OkG P w K mg k x ps f := by
  obtain ⟨fd, G, b⟩ := O.ex
  exact ⟨⟨fd, fun base => (G base).mono h, b⟩, O.kp, O.g⟩
section
variable {X : Cx} {k : Nat} {f : Addr} {fd : FuncData} {ps : List Str} {sp : Sp} {E : XK} {x : Str} {q pos : Pos} {e : Expr} {es : List Expr} {t : TA}
end
section
variable {X : Cx} {W : WW} {k : Nat} {x : Str} {ps : List Str} {f : PFn} {p pos : Pos} {e : Expr} {es : List Expr}
end
end VL
namespace VL
open PySem PySem.Spec PyProof.Rows L2 FL
/-! ### reckoning: what fits -/
theorem RpD.ints {L : List Int} (h : ∀ i ∈ L, -1000000000000000000000000000000 ≤ i ∧ i ≤ 1000000000000000000000000000000) : RpD 1 (3 + L.length * 105) (.lst (L.map .int)) := by
  have := RpD.lst (k := 0) (B := 103) (ds := L.map D.int) fun d hd => by
    obtain ⟨i, hi, rfl⟩ := List.mem_map.mp hd
    exact .i (h i hi).1 (h i hi).2
  rwa [List.length_map] at this
def sumL : List Str → Nat
  | [] => 0
  | t :: ts => t.length + 2 + sumL ts
theorem from_len : ∀ (ts : List Str) (k : Nat) (acc : Str), (textFrom k acc ts).length ≤ acc.length + sumL ts
  | [], k, acc => by show acc.length ≤ acc.length + 0; omega
  | t :: r, k, acc => by
    have h := from_len r (k + 1) (acc ++ (if k > 0 then ", " else "" : String) ++ t)
    have e : (acc ++ (if k > 0 then ", " else "" : String) ++ t).length ≤ acc.length + 2 + t.length := by
      rw [strLen_append, strLen_append]
      have c1 : (Str.ofString ", ").length = 2 := by decide
      have c2 : (Str.ofString "").length = 0 := by decide
      split
      · rw [c1]; omega
      · rw [c2]; omega
    show (textFrom (k + 1) (acc ++ (if k > 0 then ", " else "" : String) ++ t) r).length ≤ acc.length + (t.length + 2 + sumL r)
    omega
theorem list_len (ts : List Str) : (listText ts).length ≤ 2 + sumL ts := by
  have h := from_len ts 0 "["
  show (textFrom 0 "[" ts ++ "]").length ≤ _
  rw [strLen_append]
  have c1 : (Str.ofString "[").length = 1 := by decide
  have c2 : (Str.ofString "]").length = 1 := by decide
  rw [c1] at h
  rw [c2]
  omega
theorem join_len (ts : List Str) : (Str.join ", " ts).length ≤ sumL ts := by
  have c1 : (Str.ofString ", ").length = 2 := by decide
  match ts with
  | [] => show (Str.ofString "").length ≤ 0; decide
  | [x] => show x.length ≤ x.length + 2 + 0; omega
  | x :: y :: r =>
    have ih := join_len (y :: r)
    show (x ++ (", " : Str) ++ Str.join ", " (y :: r)).length ≤ x.length + 2 + sumL (y :: r)
    rw [strLen_append, strLen_append, c1]
    omega
theorem tuple_len (ts : List Str) : (tupleText ts).length ≤ 3 + sumL ts := by
  have h := join_len ts
  show (("(" : Str) ++ Str.join ", " ts ++ (if ts.length == 1 then ",)" else ")" : String)).length ≤ _
  rw [strLen_append, strLen_append]
  have c1 : (Str.ofString "(").length = 1 := by decide
  have c2 : (Str.ofString ",)").length = 2 := by decide
  have c3 : (Str.ofString ")").length = 1 := by decide
  rw [c1]
  split
  · rw [c2]; omega
  · rw [c3]; omega
theorem ok_of (s : String) : PyData.strOk (Str.ofString s) = true := by
  rw [Str.ofString_eq_toList]
  show ((s.toList.map Char.toNat).toArray).all (· < 0x110000) = true
  rw [List.all_toArray, List.all_eq_true]
  intro n hn
  obtain ⟨c, _, rfl⟩ := List.mem_map.mp hn
  have v : c.val.toNat < 55296 ∨ 57343 < c.val.toNat ∧ c.val.toNat < 1114112 := c.valid
  have e : c.toNat = c.val.toNat := rfl
  exact decide_eq_true (by omega)
theorem ok_app {a b : Str} (h : PyData.strOk a = true) (h' : PyData.strOk b = true) : PyData.strOk (a ++ b) = true := by
  show (a.cps ++ b.cps).all (· < 0x110000) = true
  rw [Array.all_append]
  show (PyData.strOk a && PyData.strOk b) = true
  rw [h, h']
  rfl
theorem ok_from : ∀ (ts : List Str) (k : Nat) (acc : Str), PyData.strOk acc = true → (∀ t ∈ ts, PyData.strOk t = true) → PyData.strOk (textFrom k acc ts) = true
  | [], k, acc, h, _ => h
  | t :: r, k, acc, h, hs => by
    show PyData.strOk (textFrom (k + 1) (acc ++ (if k > 0 then ", " else "" : String) ++ t) r) = true
    refine ok_from r _ _ (ok_app (ok_app h ?_) (hs t List.mem_cons_self)) fun x hx => hs x (List.mem_cons_of_mem _ hx)
    split
    · exact ok_of _
    · exact ok_of _
theorem ok_list {ts : List Str} (h : ∀ t ∈ ts, PyData.strOk t = true) : PyData.strOk (listText ts) = true := ok_app (ok_from ts 0 _ (ok_of _) h) (ok_of _)
theorem ok_join : ∀ (ts : List Str), (∀ t ∈ ts, PyData.strOk t = true) → PyData.strOk (Str.join ", " ts) = true
  | [], _ => by
    show (#[] : Array Nat).all (· < 0x110000) = true
    simp
  | [x], h => h x (by simp)
  | x :: y :: r, h => ok_app (ok_app (h x List.mem_cons_self) (ok_of _)) (ok_join (y :: r) fun t ht => h t (List.mem_cons_of_mem _ ht))
theorem ok_tuple {ts : List Str} (h : ∀ t ∈ ts, PyData.strOk t = true) : PyData.strOk (tupleText ts) = true := by
  refine ok_app (ok_app (ok_of _) (ok_join ts h)) ?_
  split
  · exact ok_of _
  · exact ok_of _
structure RpP (k B : Nat) (p : PyData) : Prop where
  sh : p.showable = true
  nd : p.hasDict = false
  dp : p.depth ≤ k
  ln : p.shown.length ≤ B
  ok : PyData.strOk p.shown = true
theorem rps_ok {k B : Nat} : ∀ {ds : List D}, (∀ d ∈ ds, ∃ p, pyD d = some p ∧ RpP k B p) → ∃ ps, pyDs ds = some ps ∧ PyData.showableAll ps = true ∧ PyData.hasDictAll ps = false ∧ PyData.depthAll ps ≤ k ∧ sumL (PyData.shownAll ps) ≤ ds.length * (B + 2) ∧ ∀ t ∈ PyData.shownAll ps, PyData.strOk t = true
  | [], _ => ⟨[], by unfold pyDs; rfl, rfl, rfl, Nat.zero_le _, Nat.zero_le _, fun t ht => by cases ht⟩
  | d :: ds, h => by
    obtain ⟨p, e, r⟩ := h d List.mem_cons_self
    obtain ⟨ps, es, h1, h2, h3, h4, h5⟩ := rps_ok fun d' hd => h d' (List.mem_cons_of_mem _ hd)
    refine ⟨p :: ps, ?_, ?_, ?_, ?_, ?_, fun t ht => ?_⟩
    · unfold pyDs
      rw [e, es]
      rfl
    · show (p.showable && PyData.showableAll ps) = true
      rw [r.sh, h1]
      rfl
    · show (p.hasDict || PyData.hasDictAll ps) = false
      rw [r.nd, h2]
      rfl
    · show max p.depth (PyData.depthAll ps) ≤ k
      exact Nat.max_le.mpr ⟨r.dp, h3⟩
    · show p.shown.length + 2 + sumL (PyData.shownAll ps) ≤ (ds.length + 1) * (B + 2)
      have := r.ln
      rw [Nat.add_mul]
      omega
    · rcases List.mem_cons.mp ht with q | q
      · rw [q]; exact r.ok
      · exact h5 t q
theorem rp_ok {k B : Nat} {d : D} (h : RpD k B d) : ∃ p, pyD d = some p ∧ RpP k B p := by
  induction h with
  | non => exact ⟨.none, by unfold pyD; rfl, rfl, rfl, Nat.le_refl _, by show (Str.ofString "None").length ≤ 4; decide, ok_of _⟩
  | bl => 
    rename_i b
    refine ⟨.bool b, by unfold pyD; rfl, rfl, rfl, Nat.le_refl _, ?_, ?_⟩
    · cases b
      · show (Str.ofString "False").length ≤ 5; decide
      · show (Str.ofString "True").length ≤ 5; decide
    · cases b
      · exact ok_of _
      · exact ok_of _
  | int h =>
    rename_i i
    refine ⟨.int i, by unfold pyD; rfl, decide_eq_true (Nat.lt_of_lt_of_le h (by decide)), rfl, Nat.le_refl _, ?_, ok_of _⟩
    have := int_text_length_le (a := i) (k := 100) (by decide) h
    show (Str.ofString (toString i)).length ≤ 103
    have e : (Str.ofString (toString i)).length = (toString i).length := PySem.ofString_length _
    omega
  | lst _ ih =>
    obtain ⟨ps, e, h1, h2, h3, h4, h5⟩ := rps_ok ih
    refine ⟨.list ps, by unfold pyD; rw [e]; rfl, h1, h2, Nat.succ_le_succ h3, ?_, ok_list h5⟩
    have := list_len (PyData.shownAll ps)
    show (listText (PyData.shownAll ps)).length ≤ _
    omega
  | tup _ ih =>
    obtain ⟨ps, e, h1, h2, h3, h4, h5⟩ := rps_ok ih
    refine ⟨.tuple ps, by unfold pyD; rw [e]; rfl, h1, h2, Nat.succ_le_succ h3, ?_, ok_tuple h5⟩
    have := tuple_len (PyData.shownAll ps)
    show (tupleText (PyData.shownAll ps)).length ≤ _
    omega
  | up _ h1 h2 ih =>
    obtain ⟨p, e, r⟩ := ih
    exact ⟨p, e, r.sh, r.nd, Nat.le_trans r.dp h1, Nat.le_trans r.ln h2, r.ok⟩
/-- the text of data -/
def rpS (d : D) : Str := match pyD d with
  | some p => p.shown
  | none => ""
theorem gRepr_s {k B : Nat} {d : D} (h : RpD k B d) (hk : k ≤ 30) (hB : B ≤ 16777216) : gRepr [d] = some (.d (.str (rpS d))) := by
  obtain ⟨p, e, r⟩ := rp_ok h
  have hb : rprB p = true := by
    unfold rprB
    rw [r.sh, r.nd, decide_eq_true (show p.depth ≤ 30 from Nat.le_trans r.dp hk), decide_eq_true (show p.shown.length ≤ 16777216 from Nat.le_trans r.ln hB)]
    rfl
  have es : rpS d = p.shown := by unfold rpS; rw [e]
  show (pyD d).bind _ = _
  rw [e, es]
  show (if rprB p = true then some (O.d (.str p.shown)) else none) = _
  rw [if_pos hb]
theorem rpS_ok {k B : Nat} {d : D} (h : RpD k B d) : PyData.strOk (rpS d) = true := by
  obtain ⟨p, e, r⟩ := rp_ok h
  unfold rpS
  rw [e]
  exact r.ok
theorem eqD_str {x : Str} (h : PyData.strOk x = true) : eqD (.str x) (.str x) = some true := by
  have e1 : pyD (.str x) = some (.str x) := by unfold pyD; rfl
  have sh : SeqAt.shaped (.str x) = true := by unfold SeqAt.shaped; simp [PyData.canLay0, PyData.depth, h]
  unfold eqD
  rw [e1]
  show (if SeqAt.shaped (.str x) = true ∧ SeqAt.shaped (.str x) = true then some (PyData.eqv (.str x) (.str x)) else none) = _
  rw [if_pos ⟨sh, sh⟩, PyData.eqv]
  simp
theorem eq_str {x : Str} (h : PyData.strOk x = true) : gEq (.str x) (.str x) = some (.d (.bl true)) := by
  show (eqD (.str x) (.str x)).map _ = _
  rw [eqD_str h]
  rfl
end VL
/-! VL: the law's end where the law's own def keeps its promise only on a stack that shows nothing (OkG). -/
namespace VL
open PySem PySem.Spec PyProof.Rows L2 FL
section
variable {P : Program} {w : World} {K : Frg} {mg mb : Str → Option Value} {k : Nat} {fa a : Addr} {fd : FuncData} {x : Str} {sp : Sp} {s1 : Shared} {vs : List Value} {ns : List Int}
/-- what comes out -/
def EndG (s1 : Shared) (r : Result) (s' : Shared) : Prop := r = .ok (.ret (.bool true)) ∧ OldK s1.heap s'.heap ∧ s'.os = s1.os ∧ AllBare s'.gens
theorem core_G (KX : K.In s1.heap) (hns : s1.heap.Ns mainGlobals mg) (hb : s1.heap.Ns builtinsNs mb) (hbb : ∀ x : Str, x ≠ "__name__" → mb x = bootBuiltins x) (hlim : s1.heap.NoLimit) (hg : s1.gens = #[])
    (ha : s1.heap.get? a = some { cls := .type "list", data := .seq vs.toArray }) (hr : Room k callerA) (F : ∀ base : Heap, FnG P w K mg base k fa fd [x] sp) (hbind : ∀ (s : Shared) (u : Value), BindsTo s fd ⟨[u], []⟩ [(x, u)])
    {H : Hp} (hsp : sp [.ref a] H (fun v _ => v = .bl true) fun _ _ _ => False) (hO : Only H) (hok : HOk P w H s1.heap) (hA : ∀ b, H b ≠ none → b = a) (hK : H a ≠ none → K.lookup a = none) :
    codeAny (model P w) callerA (.call (.ref fa) ⟨[.ref a], []⟩) (EndG s1) s1 := by
  have there : ∀ {b : Addr} {u : HO}, H b = some u → b = a := fun {b u} q => hA b (by rw [q]; simp)
  have hid : ∀ {b : Addr} {o : Obj}, s1.heap.get? b = some o → H b = none → (hidT s1.heap H).get? b = some o := fun e n => hidT_get e n
  have nod : ∀ {b : Addr} {o : Obj} {es : Array DictEntry} {ep : Nat}, s1.heap.get? b = some o → o.data = .dict es ep → H b = none := fun {b o es ep} e d => by
    cases q : H b with
    | none => rfl
    | some u =>
      have eb := there q
      subst eb
      rw [ha] at e
      injection e with e
      rw [← e] at d
      exact nomatch d
  have nsH : ∀ {b : Addr} {m : Str → Option Value}, s1.heap.Ns b m → (hidT s1.heap H).Ns b m := fun {b m} ⟨o, es, ep, e, d, r⟩ => ⟨o, es, ep, hid e (nod e d), d, r⟩
  have kH : K.In (hidT s1.heap H) := fun b o e => hid (KX b o e) (by
    cases q : H b with
    | none => rfl
    | some u =>
      have eb := there q
      subst eb
      rw [hK (by rw [q]; simp)] at e
      exact nomatch e)
  have mH : Mod K mg (hidT s1.heap H) := ⟨kH, nsH hns, ⟨mb, nsH hb, hbb⟩, let ⟨mc, h1, h2⟩ := hlim; ⟨mc, nsH h1, h2⟩⟩
  have noF : ∀ b : Addr, b ∉ frs ([] : List Env) := fun b hb => absurd (show b ∈ ([] : List Addr) from hb) (by simp)
  have e0 : Env0 P w K mg (hidT s1.heap H) callerA [] s1 H := ⟨rfl, mH, fun b o e => of_hidT e, Nat.le_of_eq (hidT_size _ _), trivial, fun b hb => absurd hb (noF b), hok, .of_eq hg⟩
  refine codeAny_mono ((F _).run callerA [] s1 H ⟨[.ref a], []⟩ [.ref a] [.ref a] _ _ rfl hr e0 (hbind s1 (.ref a)) (.cons rfl .nil) hsp) fun r s' h => ?_
  match r, h with
  | .error e, h => exact False.elim h
  | .ok .next, h => exact False.elim h
  | .ok .brk, h => exact False.elim h
  | .ok .cont, h => exact False.elim h
  | .ok (.ret u), h =>
    obtain ⟨v, H', os, bare, un, hok', rv, q⟩ := h
    have q : v = .bl true := q
    subst q
    have ru : u = Value.bool true := rv
    subst ru
    refine ⟨rfl, OldK.of_keep fun b o e => ?_, os, bare⟩
    cases q : H b with
    | none => exact un.keep b o e q (noF b) (by simp)
    | some u =>
      rcases hO b with z | ⟨ob, xs, z⟩
      · rw [q] at z
        exact nomatch z
      · obtain ⟨e1, _⟩ := hok b _ z
        obtain ⟨e2, _⟩ := hok' b _ (un.frzs b ob _ z)
        rw [e] at e1
        injection e1 with e1
        rw [e1]
        exact e2
theorem law_callG (KX : K.In s1.heap) (hns : s1.heap.Ns mainGlobals mg) (hb : s1.heap.Ns builtinsNs mb) (hbb : ∀ x : Str, x ≠ "__name__" → mb x = bootBuiltins x) (hlim : s1.heap.NoLimit) (hg : s1.gens = #[])
    (ha : s1.heap.get? a = some { cls := .type "list", data := .seq vs.toArray }) (hi : IntsAre vs ns) (hl : ns.length ≤ sizeLine) (hr : Room k callerA) (F : ∀ base : Heap, FnG P w K mg base k fa fd [x] sp) (hbind : ∀ (s : Shared) (u : Value), BindsTo s fd ⟨[u], []⟩ [(x, u)])
    (hsp : ∀ H : Hp, Only H → SqL K H a (ns.map V.int) → sp [.ref a] H (fun v _ => v = .bl true) fun _ _ _ => False) :
    codeAny (model P w) callerA (.call (.ref fa) ⟨[.ref a], []⟩) (EndG s1) s1 := by
  have rv := vals_ints hi
  have lv := hi.length
  cases hk : K.lookup a with
  | some o =>
    have e := KX a o hk
    rw [ha] at e
    injection e with e
    subst e
    have only : Only fun _ => none := fun _ => .inl rfl
    exact core_G KX hns hb hbb hlim hg ha hr F hbind (H := fun _ => none) (hsp _ only (.inr ⟨_, vs.toArray, _, hk, rfl, rfl, rfl, by rw [List.size_toArray, lv]; exact hl, by simpa using rv⟩)) only (fun b u z => nomatch (show (none : Option HO) = some u from z)) (fun b z => absurd rfl z) fun z => absurd rfl z
  | none =>
    let S : HO := .frz { cls := .type "list", data := .seq vs.toArray } (.lst (ns.map V.int))
    have at1 : ∀ b, b = a → (fun b => if b = a then some S else none : Hp) b = some S := fun b h => if_pos h
    have at2 : ∀ b, b ≠ a → (fun b => if b = a then some S else none : Hp) b = none := fun b h => if_neg h
    have only : Only fun b => if b = a then some S else none := fun b => by
      by_cases h : b = a
      · exact .inr ⟨_, _, at1 b h⟩
      · exact .inl (at2 b h)
    refine core_G KX hns hb hbb hlim hg ha hr F hbind (H := fun b => if b = a then some S else none) (hsp _ only (.inl (.inr ⟨_, at1 a rfl⟩))) only (fun b u z => ?_) (fun b z => ?_) fun _ => hk
    · by_cases h : b = a
      · have q := (at1 b h).symm.trans z
        injection q with q
        subst q
        subst h
        exact ⟨ha, by rw [List.length_map]; exact hl, vs, _, rv, ha⟩
      · exact nomatch (at2 b h).symm.trans z
    · exact Classical.byContradiction fun h => z (at2 b h)
end
theorem walk_ofG {l : PySem.W.OpenLaw} {n k : Nat} {q : Program} {loose : List Str} {XP : (Str → Option Value) → Heap → Prop} {YP : World → Heap → Prop} {d : DefRec} {x : Str}
    (hn : l.most = some n) (hn2 : n ≤ sizeLine) (hdf : d.params.defaults = []) (hr : Room k callerA)
    (F : ∀ (w : World) (mg : Str → Option Value) (fa : Addr) (h : Heap), YP w h → h.Ns mainGlobals mg → mg d.name = some (.ref fa) → ∃ (K : Frg) (fd : FuncData) (sp : Sp), K.In h ∧ (∀ (s : Shared) (u : Value), BindsTo s fd ⟨[u], []⟩ [(x, u)]) ∧
      (∀ (H : Hp) (a : Addr) (ns : List Int), ns.length ≤ n → Only H → SqL K H a (ns.map V.int) → sp [.ref a] H (fun v _ => v = .bl true) fun _ _ _ => False) ∧ ∀ base : Heap, FnG l.prog w K mg base k fa fd [x] sp) :
    PySem.W.WalkO q loose XP YP l.row.toRowW d [] (fun f vs => PySem.call f vs) := by
  refine Att.attach_call hn hdf fun w s0 s1 mg mb fa o pm cd doc a vs ns G Y ho hd hcd hmg hobj hints hlen hg => ?_
  obtain ⟨K, fd, sp, KX, hb, hsp, hF⟩ := F w mg fa _ Y G.T.g hmg
  exact law_callG KX G.T.g G.T.b G.T.builtins G.T.nolimit hg hobj hints (Nat.le_trans hlen hn2) hr hF hb fun H hO hS => hsp H a ns hlen hO hS
end VL
/-! VL: for y in t[k], t an owned tuple whose part k is a list, whose items the body changes: the item is lent to the name's slot for each turn. -/
namespace VL
open PySem PySem.Spec PyProof.Rows L2 FL
def loopMvT (i kk j : Nat) (us : List O) (body : VS) (cl : List Nat) : Nat → Nat → List O → VS
  | 0, _, os, ω => .ok (.nx, ω.set i (some (.t (us.set kk (.l os)))))
  | n + 1, k, os, ω => match os[k]? with
    | none => .no
    | some o => bnd (body (ω.set j (some o))) fun fl ω2 => match fl with
      | .nx => (match ω2[j]? with
        | some (some o') => loopMvT i kk j us body cl n (k + 1) (os.set k o') (forget cl (ω2.set j none))
        | _ => .no)
      | .ct => (match ω2[j]? with
        | some (some o') => loopMvT i kk j us body cl n (k + 1) (os.set k o') (forget cl (ω2.set j none))
        | _ => .no)
      | _ => .no
def cForMvT (i kk j : Nat) (body : VS) (cl : List Nat) : VS := fun ω => match ω[i]? with
  | some (some (.t us)) => (match us[kk]? with
    | some (.l os) => loopMvT i kk j us body cl os.length 0 os (forget cl (ω.set i none))
    | _ => .no)
  | _ => .no
section
variable {X : Cx} {W : WW} {P : List Nat} {pos npos tpos p3 p4 : Pos}
end
end VL
/-! VL: reckoning of cForMvT. -/
namespace VL
open PySem PySem.Spec PyProof.Rows L2 FL
section
variable {f : VS} {ω ω1 ω2 : Om} {nx ct bk : Om → Prop} {rt : O → Om → Prop} {i kk j : Nat} {cl : List Nat}
end
/-! ### a place's list gets a new object -/
def cAppPO (pl : PlF) (f : POF) : VS := fun ω => match pl ω, f (viewA ω) with
  | some q, .ok o => (match subO ω q with
    | some (.l os) => if os.length < sizeLine ∧ flatO o = true then .ok (.nx, putO ω q (.l (os ++ [o]))) else .no
    | _ => .no)
  | _, _ => .no
section
variable {X : Cx} {W : WW} {P : List Nat} {o e : Expr} {pos : Pos}
end
section
variable {ω ω2 : Om} {nx ct bk : Om → Prop} {rt : O → Om → Prop} {t k : Nat} {g : VS} {f : POF} {os os2 : List O} {o : O}
end
end VL
/-! VL: x.append(y) and the rest of the suite, y an owned object: in the rest y shows the new item, x shows nothing. -/
namespace VL
open PySem PySem.Spec PyProof.Rows L2 FL
def lendB (i j : Nat) (os : List O) (q : Fl × Om) : RX Fl := match q with
  | (.rt r, ω2) => .ok (.rt r, ω2)
  | (.bk, _) => .no
  | (fl, ω2) => match ω2[j]? with
    | some (some o') => .ok (fl, (ω2.set j none).set i (some (.l (os ++ [o']))))
    | _ => .no
def cLend (i j : Nat) (body : VS) : VS := fun ω => match ω[i]?, ω[j]? with
  | some (some (.l os)), some (some _) => if os.length < sizeLine then bnd (body (ω.set i none)) fun fl ω2 => lendB i j os (fl, ω2) else .no
  | _, _ => .no
section
variable {X : Cx} {W : WW} {P : List Nat} {rest : List Stmt} {x y : Str} {p1 p2 apos cpos pos : Pos} {g : VS}
end
section
variable {ω : Om} {nx ct bk : Om → Prop} {rt : O → Om → Prop} {i j : Nat} {g : VS} {os : List O} {o : O}
end
end VL
/-! Closed tables: plain mathematics. -/
namespace Fw
abbrev OI := Option Int
def oadd : OI → OI → OI
  | some a, some b => some (a + b)
  | _, _ => none
/-- the second one, if it is less -/
def omin : OI → OI → OI
  | none, y => y
  | some a, none => some a
  | some a, some b => if b < a then some b else some a
abbrev Tb := Nat → Nat → OI
def stepT (m : Nat) (T : Tb) : Tb := fun i j => omin (T i j) (oadd (T i m) (T m j))
def fwT (T : Tb) : Nat → Tb
  | 0 => T
  | m + 1 => stepT m (fwT T m)
def T0 : Tb := fun i j => if i = j then some 0 else none
def relax (T : Tb) (s e : Nat) (l : Int) : Tb := fun i j => if i = s ∧ j = e then omin (T s e) (some l) else T i j
def relaxs (T : Tb) (A : List Arc) : Tb := A.foldl (fun T a => relax T a.1 a.2.1 a.2.2) T
def OLe (x : OI) (y : Int) : Prop := ∃ z, x = some z ∧ z ≤ y
theorem OLe.up {x : OI} {y z : Int} (h : OLe x y) (h2 : y ≤ z) : OLe x z := let ⟨a, b, c⟩ := h; ⟨a, b, by omega⟩
section
variable {n : Nat} {b : Nat → Int} {T : Tb}
/-- nothing is less than what the levels b ask -/
def Pot (b : Nat → Int) (T : Tb) : Prop := ∀ i j x, T i j = some x → b j - b i ≤ x
/-- each node is at 0 from itself -/
def Dg (n : Nat) (T : Tb) : Prop := ∀ i, i < n → T i i = some 0
/-- the triangle by the nodes before m -/
def Tri (n m : Nat) (T : Tb) : Prop := ∀ i j k x y, i < n → j < n → k < m → T i k = some x → T k j = some y → OLe (T i j) (x + y)
end
/-! ### rules -/
def Hol (b : Nat → Int) (r : Rule) : Prop := r.2.2.1 ≤ b r.2.1 - b r.1 ∧ b r.2.1 - b r.1 ≤ r.2.2.2
def arcs1 (r : Rule) : List Arc := [(r.1, r.2.1, r.2.2.2), (r.2.1, r.1, -r.2.2.1)]
def arcsOf (R : List Rule) : List Arc := R.flatMap arcs1
def clo (n : Nat) (R : List Rule) : Tb := fwT (relaxs T0 (arcsOf R)) n
structure Clo (n : Nat) (b : Nat → Int) (R : List Rule) (T : Tb) : Prop where
  pot : Pot b T
  dg : Dg n T
  tri : Tri n n T
  up : ∀ r ∈ R, OLe (T r.1 r.2.1) r.2.2.2
  dn : ∀ r ∈ R, OLe (T r.2.1 r.1) (-r.2.2.1)
/-- each node but the first hangs on an earlier one, by a rule of some width -/
def Tree (n : Nat) (w : Int) (R : List Rule) : Prop := ∀ v, 1 ≤ v → v < n → ∃ o, o < v ∧ ∃ r ∈ R, ((r.1 = o ∧ r.2.1 = v) ∨ (r.1 = v ∧ r.2.1 = o)) ∧ r.2.2.2 - r.2.2.1 ≤ w
/-! ### the flood -/
def marks (f : Fl) (R : List Rule) : Fl := R.foldl mark f
def turns (f : Fl) (R : List Rule) : Nat → Fl
  | 0 => f
  | t + 1 => marks (turns f R t) R
end Fw
/-! Tables that are closed in place, and floods as lists: plain mathematics. -/
namespace Fw
/-- the place (i, j) made less, by what stands in the table -/
def cellT (m i j : Nat) (T : Tb) : Tb := fun a b => if a = i ∧ b = j then stepT m T i j else T a b
def rowT (m i : Nat) (T : Tb) : Nat → Tb
  | 0 => T
  | j + 1 => cellT m i j (rowT m i T j)
def pasT (m n : Nat) (T : Tb) : Nat → Tb
  | 0 => T
  | i + 1 => rowT m i (pasT m n T i) n
def lawT (n : Nat) (T : Tb) : Nat → Tb
  | 0 => T
  | m + 1 => pasT m n (lawT n T m) n
def Agr (n : Nat) (U V : Tb) : Prop := ∀ i j, i < n → j < n → U i j = V i j
/-- the places before (i, j) are done -/
def mixT (m i j : Nat) (T : Tb) : Tb := fun a b => if a < i ∨ (a = i ∧ b < j) then stepT m T a b else T a b
section
variable {n m : Nat} {T U V : Tb}
/-- no node is below 0 from itself -/
def NoNeg (n : Nat) (T : Tb) : Prop := ∀ v, v < n → ∀ d, T v v = some d → 0 ≤ d
end
/-! ### floods -/
end Fw
/-! Closed tables of whole numbers that are made tighter: plain mathematics. -/
namespace Fw
abbrev TI := Nat → Nat → Int
/-- what the table T says of levels b -/
def Und (n : Nat) (b : Nat → Int) (T : TI) : Prop := ∀ i j, i < n → j < n → b j - b i ≤ T i j
structure Cl (n : Nat) (T : TI) (P : (Nat → Int) → Prop) : Prop where
  dg : ∀ i, i < n → T i i = 0
  tri : ∀ i j k, i < n → j < n → k < n → T i j ≤ T i k + T k j
  ok : ∀ b, P b ↔ Und n b T
def tigh (a : Arc) (T : TI) : TI := fun i j => if T i a.1 + a.2.2 + T a.2.1 j < T i j then T i a.1 + a.2.2 + T a.2.1 j else T i j
/-- the arcs one after the other; none if something falls below 0 -/
def tighs (T : TI) : List Arc → Option TI
  | [] => some T
  | a :: A => if T a.2.1 a.1 + a.2.2 < 0 then none else if a.2.2 < T a.1 a.2.1 then tighs (tigh a T) A else tighs T A
def Arcd (b : Nat → Int) (a : Arc) : Prop := b a.2.1 - b a.1 ≤ a.2.2
section
variable {n : Nat} {T : TI} {P : (Nat → Int) → Prop} {a : Arc}
theorem Cl.congr {Q : (Nat → Int) → Prop} (c : Cl n T P) (h : ∀ b, Q b ↔ P b) : Cl n T Q := ⟨c.dg, c.tri, fun b => (h b).trans (c.ok b)⟩
/-- each place is reached by levels -/
theorem Cl.reach (c : Cl n T P) {i j : Nat} (hi : i < n) (hj : j < n) (hn : 0 < n) : ∃ b, P b ∧ b 0 = 0 ∧ b j - b i = T i j := by
  refine ⟨fun k => T i k - T i 0, (c.ok _).mpr fun p q hp hq => ?_, by simp, ?_⟩
  · have := c.tri i q p hi hq hp
    show T i q - T i 0 - (T i p - T i 0) ≤ T p q
    omega
  · have := c.dg i hi
    show T i j - T i 0 - (T i i - T i 0) = T i j
    omega
end
/-- a closed table of a frame, all places there -/
def numT (T : Tb) : TI := fun i j => (T i j).getD 0
end Fw
/-! lots: sorted rows without repeats -/
namespace Lw
open PySem PySem.Spec PyProof.Rows L2 FL VL
/-- a list or a tuple of ints; rows of them -/
def qL (c : Bool) (L : List Int) : D := sq c (L.map .int)
def qR (b c : Bool) (ws : LL) : D := sq b (ws.map (qL c))
def srtL (ws : LL) : LL := ws.mergeSort fun a b => decide (a ≤ b)
theorem srtL_perm (ws : LL) : (srtL ws).Perm ws := List.mergeSort_perm _ _
/-- the rows, each once -/
def dedk (k l : LL) : LL := l.foldl (fun k a => if a ∈ k then k else k ++ [a]) k
def ded (l : LL) : LL := dedk [] l
/-- the sorted lots -/
def dueL (ws : LL) : LL := ded (srtL (ws.map srt))
/-- a lot that is let -/
def Good (L : List Int) : Prop := (∀ x ∈ L, 0 ≤ x ∧ x ≤ 39) ∧ L.Nodup
end Lw
/-! sets as masks; least sets, hitting sets -/
namespace Lw
open PySem PySem.Spec PyProof.Rows L2 FL VL
/-! ### masks -/
def mk (L : List Int) : Nat := L.foldl (fun m i => m ||| 2 ^ i.toNat) 0
def mbs (m : Nat) : List Int := ((List.range m).filter m.testBit).map fun i : Nat => (i : Int)
/-- b is a part of a -/
def sm (b a : Nat) : Prop := ∀ i, b.testBit i = true → a.testBit i = true
theorem sm_refl (a : Nat) : sm a a := fun _ h => h
theorem sm_trans {a b c : Nat} (h : sm a b) (k : sm b c) : sm a c := fun i e => k i (h i e)
theorem sm_and {a b : Nat} : a &&& b = b ↔ sm b a := by
  constructor
  · intro h i hb
    rw [← h, Nat.testBit_and] at hb
    exact (Bool.and_eq_true _ _ ▸ hb).1
  · intro h
    refine Nat.eq_of_testBit_eq fun i => ?_
    rw [Nat.testBit_and]
    cases e : b.testBit i with
    | false => simp
    | true => rw [h i e]; rfl
theorem sm_le {a b : Nat} (h : sm b a) : b ≤ a := by
  have := sm_and.mpr h
  rw [← this]
  exact Nat.and_le_left
theorem mk_go (i : Nat) : ∀ (L : List Int) (m : Nat), (L.foldl (fun m i => m ||| 2 ^ i.toNat) m).testBit i = true ↔ m.testBit i = true ∨ ∃ x ∈ L, x.toNat = i
  | [], m => by simp
  | x :: L, m => by
    rw [List.foldl_cons, mk_go i L, Nat.testBit_or, Bool.or_eq_true, Nat.testBit_two_pow]
    simp only [decide_eq_true_eq, List.mem_cons, exists_eq_or_imp]
    exact or_assoc
theorem mk_bit {L : List Int} {i : Nat} : (mk L).testBit i = true ↔ ∃ x ∈ L, x.toNat = i := by
  unfold mk
  rw [mk_go]
  simp
theorem mk_mem {L : List Int} (h : ∀ x ∈ L, 0 ≤ x) {x : Int} (hx : 0 ≤ x) : (mk L).testBit x.toNat = true ↔ x ∈ L := by
  rw [mk_bit]
  constructor
  · rintro ⟨y, hy, e⟩
    have := h y hy
    rwa [show x = y by omega]
  · intro hm
    exact ⟨x, hm, rfl⟩
theorem mk_lt {L : List Int} {n : Nat} (h : ∀ x ∈ L, 0 ≤ x ∧ x < (n : Int)) : mk L < 2 ^ n := by
  refine Nat.lt_pow_two_of_testBit _ fun i hi => ?_
  cases e : (mk L).testBit i with
  | false => rfl
  | true =>
    obtain ⟨x, hx, e2⟩ := mk_bit.mp e
    have := h x hx
    omega
theorem bit_lt {m i : Nat} (h : m.testBit i = true) : i < m := Nat.lt_of_lt_of_le Nat.lt_two_pow_self (Nat.ge_two_pow_of_testBit h)
theorem mem_mbs {m : Nat} {x : Int} : x ∈ mbs m ↔ 0 ≤ x ∧ m.testBit x.toNat = true := by
  unfold mbs
  rw [List.mem_map]
  constructor
  · rintro ⟨i, hi, rfl⟩
    have := (List.mem_filter.mp hi).2
    exact ⟨by omega, by simpa using this⟩
  · rintro ⟨h0, h1⟩
    exact ⟨x.toNat, List.mem_filter.mpr ⟨List.mem_range.mpr (bit_lt h1), h1⟩, by omega⟩
theorem mbs_asc (m : Nat) : Asc (mbs m) := by
  refine ⟨?_, fun x hx => (mem_mbs.mp hx).1⟩
  unfold mbs
  rw [List.pairwise_map]
  refine List.Pairwise.imp ?_ (List.pairwise_lt_range.filter _)
  intro a b h
  omega
theorem asc_ext {r s : List Int} (hr : Asc r) (hs : Asc s) (h : ∀ x, x ∈ r ↔ x ∈ s) : r = s := (usrt_eq (ns := s) hr.1 h).trans (usrt_eq hs.1 fun k => Iff.rfl).symm
theorem mbs_mk {L : List Int} (h : Asc L) : mbs (mk L) = L := asc_ext (mbs_asc _) h fun x => by
  rw [mem_mbs]
  constructor
  · rintro ⟨a, b⟩; exact (mk_mem h.2 a).mp b
  · intro hx; exact ⟨h.2 x hx, (mk_mem h.2 (h.2 x hx)).mpr hx⟩
theorem mk_mbs (m : Nat) : mk (mbs m) = m := by
  refine Nat.eq_of_testBit_eq fun i => ?_
  rw [Bool.eq_iff_iff]
  have := mk_mem (L := mbs m) (fun x hx => (mem_mbs.mp hx).1) (x := (i : Int)) (by omega)
  rw [Int.toNat_natCast] at this
  rw [this, mem_mbs, Int.toNat_natCast]
  exact ⟨fun h => h.2, fun h => ⟨by omega, h⟩⟩
theorem mk_same {L M : List Int} (h : ∀ x, x ∈ L ↔ x ∈ M) : mk L = mk M := by
  refine Nat.eq_of_testBit_eq fun i => ?_
  rw [Bool.eq_iff_iff, mk_bit, mk_bit]
  exact ⟨fun ⟨x, a, b⟩ => ⟨x, (h x).mp a, b⟩, fun ⟨x, a, b⟩ => ⟨x, (h x).mpr a, b⟩⟩
theorem sm_mk {L M : List Int} (hL : ∀ x ∈ L, 0 ≤ x) (hM : ∀ x ∈ M, 0 ≤ x) : sm (mk L) (mk M) ↔ ∀ x ∈ L, x ∈ M := by
  constructor
  · intro h x hx
    exact (mk_mem hM (hL x hx)).mp (h _ ((mk_mem hL (hL x hx)).mpr hx))
  · intro h i hi
    obtain ⟨x, hx, e⟩ := mk_bit.mp hi
    exact mk_bit.mpr ⟨x, h x hx, e⟩
theorem asc_srt {L : List Int} (h0 : ∀ x ∈ L, 0 ≤ x) (hn : L.Nodup) : Asc (srt L) := ⟨lt_of_le_nodup _ (srt_le _) ((srt_perm _).nodup_iff.mpr hn), fun x hx => h0 x ((srt_perm L).mem_iff.mp hx)⟩
theorem mem_srt {L : List Int} {x : Int} : x ∈ srt L ↔ x ∈ L := (srt_perm L).mem_iff
/-! ### the least ones of an ascending list of masks -/
def stepM (p : Nat → Bool) (F : List Nat) (m : Nat) : List Nat := if p m = true ∧ (F.any fun o => m &&& o == o) = false then F ++ [m] else F
def minsM (p : Nat → Bool) (ms : List Nat) : List Nat := ms.foldl (stepM p) []
def LeastIn (p : Nat → Bool) (ms : List Nat) (m : Nat) : Prop := m ∈ ms ∧ p m = true ∧ ∀ o ∈ ms, p o = true → sm o m → o = m
structure MinsP (p : Nat → Bool) (ms F : List Nat) : Prop where
  nd : F.Nodup
  mem : ∀ m, m ∈ F ↔ LeastIn p ms m
theorem MinsP.below {p : Nat → Bool} {ms F : List Nat} (h : MinsP p ms F) : ∀ o, o ∈ ms → p o = true → ∃ q ∈ F, sm q o := fun o => by
  induction o using Nat.strongRecOn with
  | ind o ih =>
    intro ho hp
    by_cases hl : ∀ q ∈ ms, p q = true → sm q o → q = o
    · exact ⟨o, (h.mem o).mpr ⟨ho, hp, hl⟩, sm_refl o⟩
    · have : ∃ q ∈ ms, p q = true ∧ sm q o ∧ q ≠ o := by
        refine Classical.byContradiction fun hc => hl fun q hq hpq hs => Classical.byContradiction fun hne => hc ⟨q, hq, hpq, hs, hne⟩
      obtain ⟨q, hq, hpq, hs, hne⟩ := this
      have := sm_le hs
      obtain ⟨r, hr, hrs⟩ := ih q (by omega) hq hpq
      exact ⟨r, hr, sm_trans hrs hs⟩
theorem MinsP.next {p : Nat → Bool} {ms F : List Nat} (h : MinsP p ms F) {x : Nat} (hx : ∀ y ∈ ms, y ≤ x) : MinsP p (ms ++ [x]) (stepM p F x) := by
  have old : ∀ m, m ∈ ms → (LeastIn p (ms ++ [x]) m ↔ LeastIn p ms m) := fun m hm => by
    constructor
    · rintro ⟨_, b, c⟩
      exact ⟨hm, b, fun o ho => c o (List.mem_append_left _ ho)⟩
    · rintro ⟨_, b, c⟩
      refine ⟨List.mem_append_left _ hm, b, fun o ho hp hs => ?_⟩
      rcases List.mem_append.mp ho with e | e
      · exact c o e hp hs
      · rw [List.mem_singleton.mp e] at hs ⊢
        exact Nat.le_antisymm (sm_le hs) (hx m hm)
  have inF : (F.any fun o => x &&& o == o) = false ↔ ∀ o ∈ F, ¬ sm o x := by
    rw [List.any_eq_false]
    simp only [beq_iff_eq, sm_and]
  unfold stepM
  split
  · rename_i hc
    have hno := inF.mp hc.2
    have hxn : x ∉ F := fun hx => hno x hx (sm_refl x)
    refine ⟨?_, fun m => ?_⟩
    · rw [List.nodup_append]
      exact ⟨h.nd, by simp, fun a ha b hb e => hxn (by rw [← List.mem_singleton.mp hb, ← e]; exact ha)⟩
    · rw [List.mem_append, List.mem_singleton]
      constructor
      · rintro (hm | rfl)
        · exact (old m ((h.mem m).mp hm).1).mpr ((h.mem m).mp hm)
        · refine ⟨List.mem_append_right _ (List.mem_singleton.mpr rfl), hc.1, fun o ho hp hs => ?_⟩
          rcases List.mem_append.mp ho with e | e
          · obtain ⟨q, hq, hqs⟩ := h.below o e hp
            exact absurd (sm_trans hqs hs) (hno q hq)
          · exact List.mem_singleton.mp e
      · intro hl
        rcases List.mem_append.mp hl.1 with e | e
        · exact .inl ((h.mem m).mpr ((old m e).mp hl))
        · exact .inr (List.mem_singleton.mp e)
  · rename_i hc
    refine ⟨h.nd, fun m => ?_⟩
    constructor
    · intro hm
      exact (old m ((h.mem m).mp hm).1).mpr ((h.mem m).mp hm)
    · intro hl
      rcases List.mem_append.mp hl.1 with e | e
      · exact (h.mem m).mpr ((old m e).mp hl)
      · have e := List.mem_singleton.mp e
        subst e
        refine Classical.byContradiction fun hm => hc ⟨hl.2.1, inF.mpr fun o ho hs => ?_⟩
        have := hl.2.2 o (List.mem_append_left _ ((h.mem o).mp ho).1) ((h.mem o).mp ho).2.1 hs
        exact hm (this ▸ ho)
/-! ### rows -/
/-- sets_of -/
def setsF (ms : List Nat) : LL := srtL (ms.map mbs)
theorem mem_setsF {ms : List Nat} {r : List Int} : r ∈ setsF ms ↔ Asc r ∧ mk r ∈ ms := by
  unfold setsF
  rw [(srtL_perm _).mem_iff, List.mem_map]
  constructor
  · rintro ⟨m, hm, rfl⟩
    exact ⟨mbs_asc m, by rwa [mk_mbs]⟩
  · rintro ⟨ha, hm⟩
    exact ⟨_, hm, mbs_mk ha⟩
/-- no empty or negative numbers -/
def Nn (ws : LL) : Prop := ∀ w ∈ ws, ∀ x ∈ w, 0 ≤ x
def srtN (ms : List Nat) : List Nat := ms.mergeSort fun a b => decide (a ≤ b)
/-- least_sets -/
def lsM (ws : LL) : List Nat := minsM (fun _ => true) (srtN (ws.map mk))
def lsF (ws : LL) : LL := setsF (lsM ws)
/-- what the masks' numbers together are -/
def uniM (ws : LL) : Nat := ws.foldl (fun u w => u ||| mk w) 0
/-- r meets all of ws -/
def Hits (r : List Int) (ws : LL) : Prop := ∀ w ∈ ws, ∃ x ∈ w, x ∈ r
instance (r : List Int) (ws : LL) : Decidable (Hits r ws) := by unfold Hits; exact inferInstance
/-- hitting_sets -/
def htP (ws : LL) (m : Nat) : Bool := (m &&& uniM ws == m) && ws.all fun w => !(m &&& mk w == 0)
def htM (ws : LL) : List Nat := minsM (htP ws) (List.range (uniM ws + 1))
def htF (ws : LL) : LL := setsF (htM ws)
/-- a set that meets all and of which no part does -/
structure MinH (ws : LL) (r : List Int) : Prop where
  asc : Asc r
  hits : Hits r ws
  least : ∀ s, Asc s → (∀ x ∈ s, x ∈ r) → Hits s ws → ∀ x ∈ r, x ∈ s
theorem MinH.uni {ws : LL} {r : List Int} (h : MinH ws r) : ∀ x ∈ r, ∃ w ∈ ws, x ∈ w := by
  have hs := h.least (r.filter fun x => ws.any fun w => w.contains x) ⟨h.asc.1.filter _, fun x hx => h.asc.2 x (List.mem_filter.mp hx).1⟩ (fun x hx => (List.mem_filter.mp hx).1) fun w hw => by
    obtain ⟨x, a, b⟩ := h.hits w hw
    exact ⟨x, a, List.mem_filter.mpr ⟨b, List.any_eq_true.mpr ⟨w, hw, by simpa using a⟩⟩⟩
  intro x hx
  have := (List.mem_filter.mp (hs x hx)).2
  obtain ⟨w, hw, e⟩ := List.any_eq_true.mp this
  exact ⟨w, hw, by simpa using e⟩
end Lw
/-! what the law reckons: least rows, subsets, leaving out -/
namespace Lw
open PySem PySem.Spec PyProof.Rows L2 FL VL
def lstP (ws : LL) (g : List Int) : Bool := !(ws.any fun o => decide (o.length < g.length) && insB o g)
def lstF (ws : LL) : LL := ded ((srtL ws).filter (lstP ws))
/-- all parts -/
def subsF : Nat → List (List Nat)
  | 0 => [[]]
  | n + 1 => subsF n ++ (subsF n).map fun g => g ++ [n]
def chosen (N : List Int) (g : List Nat) : List Int := g.map fun i => N.getD i 0
def meeting (N : List Int) (ws : LL) : LL := ((subsF N.length).map (chosen N)).filter fun c => decide (Hits c ws)
theorem Hits.mono {r s : List Int} {ws : LL} (h : Hits r ws) (k : ∀ x ∈ r, x ∈ s) : Hits s ws := fun w hw => by
  obtain ⟨x, a, b⟩ := h w hw
  exact ⟨x, a, k x b⟩
end Lw
/-! doubts: plans, objects, what they allow -/
namespace Lw
open PySem PySem.Spec PyProof.Rows L2 FL VL
def plD : Pl → D
  | .most n => .tup [.str "most", .int n]
  | .within n => .tup [.str "within", .int n]
  | .lots ws => .tup [.str "lots", qR false false ws]
  | .both a b => .tup [.str "both", plD a, plD b]
  | .either a b => .tup [.str "either", plD a, plD b]
def masksD (ws : LL) : D := .tup (ws.map fun S => .int (mk S : Int))
def doD : Pl → D
  | .most n => .obj "AtMost" [("count", .int n)]
  | .within n => .obj "Within" [("limit", .int n)]
  | .lots ws => .obj "Lots" [("lots", qR true true (dueL ws)), ("masks", masksD (dueL ws))]
  | .both a b => .obj "Both" [("first", doD a), ("second", doD b)]
  | .either a b => .obj "Either" [("first", doD a), ("second", doD b)]
def dep : Pl → Nat
  | .both a b => max (dep a) (dep b) + 1
  | .either a b => max (dep a) (dep b) + 1
  | _ => 0
def PlOk : Pl → Prop
  | .most n => 0 ≤ n ∧ n ≤ 99
  | .within n => 0 ≤ n ∧ n ≤ 1000000
  | .lots ws => ws.length ≤ 24 ∧ ∀ L ∈ ws, L.length ≤ 1000 ∧ Good L
  | .both a b => PlOk a ∧ PlOk b
  | .either a b => PlOk a ∧ PlOk b
def grs : Pl → LL
  | .lots ws => ws
  | .both a b => grs a ++ grs b
  | .either a b => grs a ++ grs b
  | _ => []
end Lw
/-! largest lots -/
namespace Lw
open PySem PySem.Spec PyProof.Rows L2 FL VL
/-! ### what is allowed depends on the set alone, and parts of it are allowed -/
theorem psum {L M : List Int} (h : L.Perm M) : L.sum = M.sum := by
  induction h with
  | nil => rfl
  | cons x _ ih => rw [List.sum_cons, List.sum_cons, ih]
  | swap x y l => rw [List.sum_cons, List.sum_cons, List.sum_cons, List.sum_cons]; omega
  | trans _ _ a b => rw [a, b]
theorem sumOf_perm {ms : List Int} {L M : List Int} (h : L.Perm M) : sumOf L ms = sumOf M ms := by unfold sumOf; exact psum (h.map _)
theorem insB_perm {g L M : List Int} (h : L.Perm M) : insB L g = insB M g := by
  unfold insB
  exact decide_eq_decide.mpr ⟨fun k x hx => k x (h.mem_iff.mpr hx), fun k x hx => k x (h.mem_iff.mp hx)⟩
theorem alw_perm {ms : List Int} {L M : List Int} (h : L.Perm M) : ∀ p : Pl, alw p L ms = alw p M ms
  | .most n => by unfold alw; rw [h.length_eq]
  | .within n => by unfold alw; rw [sumOf_perm h]
  | .lots ws => by
    unfold alw
    rw [h.length_eq]
    congr 1
    congr 1
    funext g
    exact insB_perm h
  | .both a b => by unfold alw; rw [alw_perm h a, alw_perm h b]
  | .either a b => by unfold alw; rw [alw_perm h a, alw_perm h b]
theorem sum_sub {f : Int → Int} : ∀ {L M : List Int}, L.Sublist M → (∀ x ∈ M, 0 ≤ f x) → (L.map f).sum ≤ (M.map f).sum
  | _, _, .slnil, _ => Int.le_refl _
  | _, _, .cons a h, hm => by
    rw [List.map_cons, List.sum_cons]
    have := sum_sub h fun x hx => hm x (List.mem_cons_of_mem _ hx)
    have := hm a List.mem_cons_self
    omega
  | _, _, .cons₂ a h, hm => by
    rw [List.map_cons, List.map_cons, List.sum_cons, List.sum_cons]
    have := sum_sub h fun x hx => hm x (List.mem_cons_of_mem _ hx)
    omega
theorem alw_sub {ms : List Int} {L M : List Int} (h : L.Sublist M) (hm : ∀ x ∈ M, 0 ≤ ms.getD x.toNat 0) : ∀ p : Pl, alw p M ms = true → alw p L ms = true
  | .most n, e => by
    unfold alw at *
    have := h.length_le
    have := of_decide_eq_true e
    exact decide_eq_true (by omega)
  | .within n, e => by
    unfold alw sumOf at *
    have := sum_sub (f := fun i => ms.getD i.toNat 0) h hm
    have := of_decide_eq_true e
    exact decide_eq_true (by omega)
  | .lots ws, e => by
    unfold alw at *
    rw [Bool.or_eq_true] at *
    rcases e with e | e
    · left
      obtain ⟨g, hg, hi⟩ := List.any_eq_true.mp e
      exact List.any_eq_true.mpr ⟨g, hg, decide_eq_true fun x hx => of_decide_eq_true hi x (h.subset hx)⟩
    · right
      have := of_decide_eq_true e
      have := h.length_le
      exact decide_eq_true (by omega)
  | .both a b, e => by
    unfold alw at *
    rw [Bool.and_eq_true] at *
    exact ⟨alw_sub h hm a e.1, alw_sub h hm b e.2⟩
  | .either a b, e => by
    unfold alw at *
    rw [Bool.or_eq_true] at *
    exact e.imp (alw_sub h hm a) (alw_sub h hm b)
/-- an ascending part of an ascending list is a sublist -/
theorem asc_filter {r s : List Int} (hr : Asc r) (hs : Asc s) (h : ∀ x ∈ r, x ∈ s) : r = s.filter fun x => decide (x ∈ r) :=
  asc_ext hr ⟨hs.1.filter _, fun x hx => hs.2 x (List.mem_filter.mp hx).1⟩ fun x => by
    rw [List.mem_filter, decide_eq_true_eq]
    exact ⟨fun hx => ⟨h x hx, hx⟩, fun hx => hx.2⟩
theorem asc_sub {r s : List Int} (hr : Asc r) (hs : Asc s) (h : ∀ x ∈ r, x ∈ s) : r.Sublist s := by
  rw [asc_filter hr hs h]
  exact List.filter_sublist
/-! ### the greatest ones of a descending list of masks -/
def stepX (p : Nat → Bool) (F : List Nat) (m : Nat) : List Nat := if (F.any fun o => m &&& o == m) = false ∧ p m = true then F ++ [m] else F
def maxsM (p : Nat → Bool) (ms : List Nat) : List Nat := ms.foldl (stepX p) []
theorem maxsM_next (p : Nat → Bool) (ms : List Nat) (m : Nat) : maxsM p (ms ++ [m]) = stepX p (maxsM p ms) m := by unfold maxsM; rw [List.foldl_append]; rfl
def MostIn (p : Nat → Bool) (ms : List Nat) (m : Nat) : Prop := m ∈ ms ∧ p m = true ∧ ∀ o ∈ ms, p o = true → sm m o → o = m
structure MaxsP (p : Nat → Bool) (ms F : List Nat) : Prop where
  nd : F.Nodup
  mem : ∀ m, m ∈ F ↔ MostIn p ms m
theorem MaxsP.above {p : Nat → Bool} {ms F : List Nat} (h : MaxsP p ms F) {b : Nat} (hb : ∀ y ∈ ms, y ≤ b) : ∀ (k o : Nat), b - o ≤ k → o ∈ ms → p o = true → ∃ q ∈ F, sm o q
  | k, o, hk, ho, hp => by
    by_cases hl : ∀ q ∈ ms, p q = true → sm o q → q = o
    · exact ⟨o, (h.mem o).mpr ⟨ho, hp, hl⟩, sm_refl o⟩
    · have : ∃ q ∈ ms, p q = true ∧ sm o q ∧ q ≠ o := by
        refine Classical.byContradiction fun hc => hl fun q hq hpq hs => Classical.byContradiction fun hne => hc ⟨q, hq, hpq, hs, hne⟩
      obtain ⟨q, hq, hpq, hs, hne⟩ := this
      have h1 := sm_le hs
      have h2 := hb q hq
      cases k with
      | zero => omega
      | succ k =>
        obtain ⟨r, hr, hrs⟩ := MaxsP.above h hb k q (by omega) hq hpq
        exact ⟨r, hr, sm_trans hs hrs⟩
theorem MaxsP.next {p : Nat → Bool} {ms F : List Nat} (h : MaxsP p ms F) {b : Nat} (hb : ∀ y ∈ ms, y ≤ b) {x : Nat} (hx : ∀ y ∈ ms, x ≤ y) : MaxsP p (ms ++ [x]) (stepX p F x) := by
  have old : ∀ m, m ∈ ms → (MostIn p (ms ++ [x]) m ↔ MostIn p ms m) := fun m hm => by
    constructor
    · rintro ⟨_, b, c⟩
      exact ⟨hm, b, fun o ho => c o (List.mem_append_left _ ho)⟩
    · rintro ⟨_, b, c⟩
      refine ⟨List.mem_append_left _ hm, b, fun o ho hp hs => ?_⟩
      rcases List.mem_append.mp ho with e | e
      · exact c o e hp hs
      · rw [List.mem_singleton.mp e] at hs ⊢
        exact Nat.le_antisymm (hx m hm) (sm_le hs)
  have inF : (F.any fun o => x &&& o == x) = false ↔ ∀ o ∈ F, ¬ sm x o := by
    rw [List.any_eq_false]
    simp only [beq_iff_eq, Nat.and_comm x, sm_and]
  unfold stepX
  split
  · rename_i hc
    have hno := inF.mp hc.1
    have hxn : x ∉ F := fun hx => hno x hx (sm_refl x)
    refine ⟨?_, fun m => ?_⟩
    · rw [List.nodup_append]
      exact ⟨h.nd, by simp, fun a ha b hb e => hxn (by rw [← List.mem_singleton.mp hb, ← e]; exact ha)⟩
    · rw [List.mem_append, List.mem_singleton]
      constructor
      · rintro (hm | rfl)
        · exact (old m ((h.mem m).mp hm).1).mpr ((h.mem m).mp hm)
        · refine ⟨List.mem_append_right _ (List.mem_singleton.mpr rfl), hc.2, fun o ho hp hs => ?_⟩
          rcases List.mem_append.mp ho with e | e
          · obtain ⟨q, hq, hqs⟩ := h.above hb _ o (Nat.le_refl _) e hp
            exact absurd (sm_trans hs hqs) (hno q hq)
          · exact List.mem_singleton.mp e
      · intro hl
        rcases List.mem_append.mp hl.1 with e | e
        · exact .inl ((h.mem m).mpr ((old m e).mp hl))
        · exact .inr (List.mem_singleton.mp e)
  · rename_i hc
    refine ⟨h.nd, fun m => ?_⟩
    constructor
    · intro hm
      exact (old m ((h.mem m).mp hm).1).mpr ((h.mem m).mp hm)
    · intro hl
      rcases List.mem_append.mp hl.1 with e | e
      · exact (h.mem m).mpr ((old m e).mp hl)
      · have e := List.mem_singleton.mp e
        subst e
        refine Classical.byContradiction fun hm => hc ⟨inF.mpr fun o ho hs => ?_, hl.2.1⟩
        have := hl.2.2 o (List.mem_append_left _ ((h.mem o).mp ho).1) ((h.mem o).mp ho).2.1 hs
        exact hm (this ▸ ho)
theorem maxsP (p : Nat → Bool) (ms : List Nat) (h : ms.Pairwise (· ≥ ·)) : MaxsP p ms (maxsM p ms) := by
  obtain ⟨b, hb⟩ : ∃ b, ∀ y ∈ ms, y ≤ b := by
    cases ms with
    | nil => exact ⟨0, fun y hy => by cases hy⟩
    | cons a l => exact ⟨a, fun y hy => by
        rcases List.mem_cons.mp hy with rfl | e
        · exact Nat.le_refl _
        · exact (List.pairwise_cons.mp h).1 y e⟩
  have go : ∀ (rest done : List Nat), (∀ y ∈ done, y ≤ b) → (∀ y ∈ rest, y ≤ b) → (done ++ rest).Pairwise (· ≥ ·) → MaxsP p done (maxsM p done) → MaxsP p (done ++ rest) (maxsM p (done ++ rest)) := by
    intro rest
    induction rest with
    | nil => intro done _ _ _ h; rwa [List.append_nil]
    | cons x rest ih =>
      intro done hd hr hp h
      have e : done ++ x :: rest = done ++ [x] ++ rest := by rw [List.append_assoc]; rfl
      rw [e] at hp ⊢
      refine ih _ (fun y hy => ?_) (fun y hy => hr y (List.mem_cons_of_mem _ hy)) hp ?_
      · rcases List.mem_append.mp hy with g | g
        · exact hd y g
        · rw [List.mem_singleton.mp g]; exact hr x List.mem_cons_self
      · rw [maxsM_next]
        exact h.next hd fun y hy => (List.pairwise_append.mp (List.pairwise_append.mp hp).1).2.2 y hy x (List.mem_singleton.mpr rfl)
  exact go ms [] (fun y hy => by cases hy) hb h ⟨List.nodup_nil, fun m => ⟨fun h => (by cases h), fun h => (by cases h.1)⟩⟩
/-! ### largest lots -/
def lgM (p : Pl) (ms : List Int) : List Nat := maxsM (fun m => alw p (mbs m) ms) (List.range (2 ^ ms.length)).reverse
def lgF (p : Pl) (ms : List Int) : LL := setsF (lgM p ms)
theorem rr_pw (n : Nat) : (List.range n).reverse.Pairwise (· ≥ ·) := by
  rw [List.pairwise_reverse]
  exact List.pairwise_lt_range.imp Nat.le_of_lt
theorem lgM_P (p : Pl) (ms : List Int) : MaxsP (fun m => alw p (mbs m) ms) (List.range (2 ^ ms.length)).reverse (lgM p ms) := maxsP _ _ (rr_pw _)
/-- an ascending list of indexes -/
def Ix (n : Nat) (r : List Int) : Prop := Asc r ∧ ∀ x ∈ r, x < (n : Int)
theorem Ix.mk {n : Nat} {r : List Int} (h : Ix n r) : mk r < 2 ^ n := mk_lt fun x hx => ⟨h.1.2 x hx, h.2 x hx⟩
theorem mbs_ix {n m : Nat} (h : m < 2 ^ n) : Ix n (mbs m) := by
  refine ⟨mbs_asc m, fun x hx => ?_⟩
  obtain ⟨h0, h1⟩ := mem_mbs.mp hx
  have h2 := Nat.ge_two_pow_of_testBit h1
  have : x.toNat < n := (Nat.pow_lt_pow_iff_right (by decide : 1 < 2)).mp (Nat.lt_of_le_of_lt h2 h)
  omega
theorem mem_lgF {p : Pl} {ms : List Int} {r : List Int} : r ∈ lgF p ms ↔ Ix ms.length r ∧ alw p r ms = true ∧ ∀ s, Ix ms.length s → alw p s ms = true → (∀ x ∈ r, x ∈ s) → ∀ x ∈ s, x ∈ r := by
  unfold lgF
  rw [mem_setsF, (lgM_P p ms).mem]
  have hm : ∀ m, m ∈ (List.range (2 ^ ms.length)).reverse ↔ m < 2 ^ ms.length := fun m => by rw [List.mem_reverse, List.mem_range]
  constructor
  · rintro ⟨ha, h1, h2, h3⟩
    have hi : Ix ms.length r := by
      have := mbs_ix ((hm _).mp h1)
      rwa [mbs_mk ha] at this
    have h2 : alw p (mbs (mk r)) ms = true := h2
    rw [mbs_mk ha] at h2
    refine ⟨hi, h2, fun s hs hal hrs x hx => ?_⟩
    have h4 : alw p (mbs (mk s)) ms = true := by rw [mbs_mk hs.1]; exact hal
    have := h3 (mk s) ((hm _).mpr hs.mk) h4 ((sm_mk ha.2 hs.1.2).mpr hrs)
    exact (sm_mk hs.1.2 ha.2).mp (this ▸ sm_refl _) x hx
  · rintro ⟨hi, h2, h3⟩
    refine ⟨hi.1, (hm _).mpr hi.mk, ?_, fun o ho hpo hso => ?_⟩
    · show alw p (mbs (mk r)) ms = true
      rw [mbs_mk hi.1]; exact h2
    · have ho := mbs_ix ((hm _).mp ho)
      rw [← mk_mbs o] at hso ⊢
      have h4 := (sm_mk hi.1.2 ho.1.2).mp hso
      exact mk_same fun x => ⟨h3 _ ho hpo h4 x, h4 x⟩
/-! ### by the law -/
def lrgP (ws : LL) (g : List Int) : Bool := !(ws.any fun o => decide (g.length < o.length) && insB g o)
def lrgF (ws : LL) : LL := ded ((srtL ws).filter (lrgP ws))
def mIx (g : List Nat) : List Int := g.map fun n : Nat => (n : Int)
def lotsA (p : Pl) (ms : List Int) : LL := ((subsF ms.length).map mIx).filter fun L => alw p L ms
/-- greedily: no index can be added -/
theorem greedy {p : Pl} {ms : List Int} (hm : ∀ x ∈ ms, 0 ≤ x) {r : List Int} (hi : Ix ms.length r) (ha : alw p r ms = true) (h : ∀ x, 0 ≤ x → x < (ms.length : Int) → x ∉ r → alw p (r ++ [x]) ms = false) : r ∈ lgF p ms := by
  refine mem_lgF.mpr ⟨hi, ha, fun s hs hsa hrs x hx => Classical.byContradiction fun hxr => ?_⟩
  have hg : ∀ y ∈ s, 0 ≤ ms.getD y.toNat 0 := fun y hy => by
    have h1 := hs.2 y hy
    have h2 := hs.1.2 y hy
    have hk : y.toNat < ms.length := by omega
    rw [List.getD_eq_getElem?_getD, List.getElem?_eq_getElem hk]
    exact hm _ (List.getElem_mem hk)
  have h1 := h x (hs.1.2 x hx) (hs.2 x hx) hxr
  have nd : (r ++ [x]).Nodup := by
    rw [List.nodup_append]
    exact ⟨hi.1.nd, by simp, fun a ha b hb e => hxr (by rw [← List.mem_singleton.mp hb, ← e]; exact ha)⟩
  have h0 : ∀ y ∈ r ++ [x], 0 ≤ y := fun y hy => by
    rcases List.mem_append.mp hy with g | g
    · exact hi.1.2 y g
    · rw [List.mem_singleton.mp g]; exact hs.1.2 x hx
  have sub : (srt (r ++ [x])).Sublist s := asc_sub (asc_srt h0 nd) hs.1 fun y hy => by
    rcases List.mem_append.mp (mem_srt.mp hy) with g | g
    · exact hrs y g
    · rw [List.mem_singleton.mp g]; exact hx
  have h2 := alw_sub sub hg p hsa
  rw [alw_perm (srt_perm _) p] at h2
  rw [h1] at h2
  cases h2
end Lw
namespace Lw
open PySem PySem.Spec PyProof.Rows L2 FL VL
def v_steps_from : PFn := fnP 5 (cSeq (cSet 2 (loD (cComp (iP kRange1 (aCons (cV 0) (aNil))) (hN 3) (cYes) (cLst (oNil)) [3])))
      (cSeq (cFor (iX kRange1 (eaCons (liD (cCB gLenA (aCons (cV 1) (aNil)))) (eaNil))) (gN 4) (cSeq (cAppP (pIx (pV 2) (cBin gIx (cBin gIx (cV 1) (cV 4)) (cK (.int 0)))) (cTup (aCons (cV 4) (aCons (cBin gIx (cBin gIx (cV 1) (cV 4)) (cK (.int 1))) (aCons (cK (.int 1)) (aNil))))))
      (cAppP (pIx (pV 2) (cBin gIx (cBin gIx (cV 1) (cV 4)) (cK (.int 1)))) (cTup (aCons (cV 4) (aCons (cBin gIx (cBin gIx (cV 1) (cV 4)) (cK (.int 0))) (aCons (cNeg (cK (.int 1))) (aNil))))))) [4])
      (cRet (cMv 2))))
def v_room_left : PFn := fnP 4 (cSeq (cIfS (lbA (cB (cBin gEq (cV 3) (cK (.int 1))))) (cRet (eoD (liD (cBin gSub (cBin gIx (cBin gIx (cV 0) (cV 2)) (cK (.int 2))) (cBin gIx (cV 1) (cV 2)))))) (cNx))
      (cRet (eoD (liD (cBin gIx (cV 1) (cV 2))))))
def v_way_back : PFn := fnP 6 (cSeq (cSet 2 (loD (cLst (oNil))))
      (cSeq (cAsgT (gT 3 (gCons (gN 3) (gCons (gN 4) (gCons (gN 5) (gNil))))) (liD (cBin gIx (cV 0) (cV 1))))
      (cSeq (loopW (lbA (cB (cBin gGe (cV 4) (cK (.int 0))))) (cSeq (cApp 2 (eoD (liD (cTup (aCons (cV 4) (aCons (cV 5) (aNil)))))))
      (cAsgT (gT 3 (gCons (gN 3) (gCons (gN 4) (gCons (gN 5) (gNil))))) (liD (cBin gIx (cV 0) (cV 3))))) [] 100000)
      (cRet (cMv 2)))))
def v_net_out : PFn := fnP 5 (cSeq (cSet 3 (eoD (liD (cK (.int 0)))))
      (cSeq (cFor (iX kRange1 (eaCons (liD (cCB gLenA (aCons (cV 0) (aNil)))) (eaNil))) (gN 4) (cSeq (cIfS (lbA (cB (cBin gEq (cBin gIx (cBin gIx (cV 0) (cV 4)) (cK (.int 0))) (cV 2)))) (cAug 3 gAddI (liD (cBin gIx (cV 1) (cV 4)))) (cNx))
      (cIfS (lbA (cB (cBin gEq (cBin gIx (cBin gIx (cV 0) (cV 4)) (cK (.int 1))) (cV 2)))) (cAug 3 gSub (liD (cBin gIx (cV 1) (cV 4)))) (cNx))) [4])
      (cRet (eoD (liD (cV 3))))))
def v_l_source : PFn := fnP 2 (cSeq (cIfS (lbA (cB (cBin gLt (cV 1) (cCB gLenA (aCons (cV 0) (aNil)))))) (cRet (loD (cLst (oCons (cCBO gAbs (aCons (cBin gIx (cV 0) (cV 1)) (aNil))) (oCons (oD (cV 1)) (oNil)))))) (cNx))
      (cSeq (cIfS (lbA (cB (cBin gEq (cCB gLenA (aCons (cV 0) (aNil))) (cK (.int 0))))) (cRet (loD (cLst (oCons (oD (cBin gAdd (cBin gMul (cK (.int 1009)) (cV 1)) (cK (.int 17)))) (oCons (oD (cV 1)) (oNil)))))) (cNx))
      (cRet (loD (cLst (oCons (oD (cBin gAdd (cBin gAdd (cBin gMul (cK (.int 31)) (cCB gAbs (aCons (cBin gIx (cV 0) (cBin gMod (cCB gInt (aCons (cV 1) (aNil))) (cCB gLenA (aCons (cV 0) (aNil))))) (aNil)))) (cBin gMul (cK (.int 1009)) (cV 1))) (cK (.int 17)))) (oCons (oD (cV 1)) (oNil))))))))
def v_l_draw : MFn := fnM 4 [0] (cSeq (cSet 2 (eoD (liA (cBin gIx (cV 0) (cK (.int 0))))))
      (cSeq (cIfS (lbA (cB (cBin gGe (cV 2) (cBin gPow (cK (.int 10)) (cK (.int 18)))))) (cSeq (cSub (pV 0) (cK (.int 0)) (eoD (liD (cBin gDiv (cV 2) (cV 1)))))
      (cRet (eoD (liD (cBin gMod (cCB gInt (aCons (cV 2) (aNil))) (cV 1)))))) (cNx))
      (cSeq (cSub (pV 0) (cK (.int 1)) (eoD (liA (cBin gAdd (cBin gIx (cV 0) (cK (.int 1))) (cK (.int 1))))))
      (cSeq (cSet 3 (eoD (liA (cBin gMod (cCB gInt (aCons (cBin gAdd (cBin gAdd (cV 2) (cBin gMul (cK (.int 7919)) (cBin gIx (cV 0) (cK (.int 1))))) (cK (.int 13))) (aNil))) (cK (.int 2147483647))))))
      (cSeq (cSet 3 (eoD (liD (cBin gMod (cCB gInt (aCons (cBin gMul (cV 3) (cBin gAdd (cV 3) (cK (.int 48271)))) (aNil))) (cK (.int 2147483629))))))
      (cSeq (cSet 3 (eoD (liA (cBin gMod (cCB gInt (aCons (cBin gAdd (cBin gMul (cV 3) (cBin gAdd (cV 3) (cK (.int 69621)))) (cBin gMul (cK (.int 31)) (cBin gIx (cV 0) (cK (.int 1))))) (aNil))) (cK (.int 2147483647))))))
      (cRet (eoD (liD (cBin gMod (cCB gInt (aCons (cBin gDiv (cV 3) (cK (.int 9))) (aNil))) (cV 1)))))))))))
def v_l_whole : PFn := fnP 1 (cRet (eoD (liD (cAndV (cCB gIsi (aCons (cV 0) (aCons (cK (.ty "int")) (aNil)))) (cBV (cNot (cB (cCB gIsi (aCons (cV 0) (aCons (cK (.ty "bool")) (aNil)))))))))))
def v_l_handed : PFn := fnP 2 (cSeq (cIfS (lbA (cB (cBin gEq (cV 0) (cK (.int 1))))) (cRet (eoD (liD (cCB gTuple (aCons (cV 1) (aNil)))))) (cNx))
      (cRet (loD (cCBO gList (aCons (cV 1) (aNil))))))
def v_l_ascends : PFn := fnP 4 (cSeq (cSet 2 (eoD (liD (cNeg (cK (.int 1))))))
      (cSeq (cFor (iSX (liD (cV 0))) (gN 3) (cSeq (cIfS (lbA (cOr (cB (cBin gLe (cV 3) (cV 2))) (cB (cBin gGe (cV 3) (cV 1))))) (cRet (eoD (liD (cK (.bl false))))) (cNx))
      (cSet 2 (eoD (liD (cV 3))))) [3])
      (cRet (eoD (liD (cK (.bl true)))))))
def v_l_flow : PFn := fnP 8 (cSeq (cIfS (lbA (cB (cBin gNe (cCB gLenA (aCons (cV 4) (aNil))) (cCB gLenA (aCons (cV 1) (aNil)))))) (cRet (eoD (liD (cK .non)))) (cNx))
      (cSeq (cSet 5 (loD (cComp (iP kRange1 (aCons (cV 0) (aNil))) (hN 6) (cYes) (oD (cK (.int 0))) [6])))
      (cSeq (cFor (iX kRange1 (eaCons (liD (cCB gLenA (aCons (cV 1) (aNil)))) (eaNil))) (gN 7) (cSeq (cIfS (lbA (cOr (cB (cBin gLt (cBin gIx (cV 4) (cV 7)) (cK (.int 0)))) (cB (cBin gGt (cBin gIx (cV 4) (cV 7)) (cBin gIx (cBin gIx (cV 1) (cV 7)) (cK (.int 2))))))) (cRet (eoD (liD (cK .non)))) (cNx))
      (cSeq (cSub (pV 5) (cBin gIx (cBin gIx (cV 1) (cV 7)) (cK (.int 0))) (eoD (liA (cBin gAdd (cBin gIx (cV 5) (cBin gIx (cBin gIx (cV 1) (cV 7)) (cK (.int 0)))) (cBin gIx (cV 4) (cV 7))))))
      (cSub (pV 5) (cBin gIx (cBin gIx (cV 1) (cV 7)) (cK (.int 1))) (eoD (liA (cBin gSub (cBin gIx (cV 5) (cBin gIx (cBin gIx (cV 1) (cV 7)) (cK (.int 1)))) (cBin gIx (cV 4) (cV 7)))))))) [7])
      (cSeq (cFor (iX kRange1 (eaCons (liD (cV 0)) (eaNil))) (gN 6) (cIfS (lbA (cAnd (cB (cBin gNe (cV 6) (cV 2))) (cAnd (cB (cBin gNe (cV 6) (cV 3))) (cB (cBin gNe (cBin gIx (cV 5) (cV 6)) (cK (.int 0))))))) (cRet (eoD (liD (cK .non)))) (cNx)) [6])
      (cRet (eoD (liA (cBin gIx (cV 5) (cV 2)))))))))
def v_reached_from : PFn := fnP 11 (cSeq (cSet 4 (loD (cComp (iP kRange1 (aCons (cCB gLenA (aCons (cV 2) (aNil))) (aNil))) (hN 5) (cYes) (oD (cK .non)) [5])))
      (cSeq (cSub (pV 4) (cV 3) (eoD (liD (cTup (aCons (cV 3) (aCons (cNeg (cK (.int 1))) (aCons (cK (.int 0)) (aNil))))))))
      (cSeq (cSet 6 (loD (cLst (oCons (oD (cV 3)) (oNil)))))
      (cSeq (cSet 7 (eoD (liD (cK (.int 0)))))
      (cSeq (loopW (lbA (cB (cBin gLt (cV 7) (cCB gLenA (aCons (cV 6) (aNil)))))) (cSeq (cSet 5 (eoD (liA (cBin gIx (cV 6) (cV 7)))))
      (cSeq (cAug 7 gAddI (liD (cK (.int 1))))
      (cFor (iSX (liD (cBin gIx (cV 2) (cV 5)))) (gT 3 (gCons (gN 8) (gCons (gN 9) (gCons (gN 10) (gNil))))) (cIfS (lbA (cAnd (cB (cBin gIs (cBin gIx (cV 4) (cV 9)) (cK .non))) (cB (cBin gGt (dO (cCall v_room_left 4 (aCons (cV 0) (aCons (cV 1) (aCons (cV 8) (aCons (cV 10) (aNil))))))) (cK (.int 0)))))) (cSeq (cSub (pV 4) (cV 9) (eoD (liD (cTup (aCons (cV 5) (aCons (cV 8) (aCons (cV 10) (aNil))))))))
      (cApp 6 (eoD (liD (cV 9))))) (cNx)) [8, 9, 10]))) [5, 8, 9, 10] 100000)
      (cRet (cMv 4)))))))
def v_l_wholes : PFn := fnP 2 (cSeq (cIfS (lbA (cNot (cTr (cCB gIsi (aCons (cV 0) (aCons (cK (.ty "list")) (aNil))))))) (cRet (eoD (liD (cK (.bl false))))) (cNx))
      (cSeq (cFor (iSX (liD (cV 0))) (gN 1) (cIfS (lbA (cNot (cTr (dO (cCall v_l_whole 1 (aCons (cV 1) (aNil))))))) (cRet (eoD (liD (cK (.bl false))))) (cNx)) [1])
      (cRet (eoD (liD (cK (.bl true)))))))
def v_l_capacity : MFn := fnM 3 [0] (cSeq (cSet 2 (eoD (evO (eCallM v_l_draw 2 [0] (erS 0 (erD (liD (cK (.int 4))) (erNil)))))))
      (cSeq (cIfS (lbA (cAnd (cTr (cV 1)) (cB (cBin gEq (cV 2) (cK (.int 0)))))) (cRet (eoD (eBin gSub (liD (cBin gPow (cK (.int 10)) (cK (.int 6)))) (evO (eCallM v_l_draw 2 [0] (erS 0 (erD (liD (cK (.int 2))) (erNil)))))))) (cNx))
      (cSeq (cIfS (lbA (cAnd (cTr (cV 1)) (cB (cBin gLt (cV 2) (cK (.int 3)))))) (cRet (eCallM v_l_draw 2 [0] (erS 0 (erD (liD (cBin gAdd (cBin gPow (cK (.int 10)) (cK (.int 6))) (cK (.int 1)))) (erNil))))) (cNx))
      (cRet (eCallM v_l_draw 2 [0] (erS 0 (erD (liD (cK (.int 7))) (erNil))))))))
def v_l_other : MFn := fnM 3 [0] (cRet (eoD (eBin gMod (evO (eCB gInt (eaCons (eBin gAdd (liD (cBin gAdd (cV 1) (cK (.int 1)))) (evO (eCallM v_l_draw 2 [0] (erS 0 (erD (liD (cBin gSub (cV 2) (cK (.int 1)))) (erNil)))))) (eaNil)))) (liD (cV 2)))))
def v_greatest_flow : PFn := fnP 15 (cSeq (cSet 4 (eoD (liD (dO (cComp (iS (cV 1)) (hN 5) (cYes) (cCBO gTuple (aCons (cV 5) (aNil))) [5])))))
      (cSeq (cSet 6 (eoD (liD (dO (cCall v_steps_from 2 (aCons (cV 0) (aCons (cV 4) (aNil))))))))
      (cSeq (cSet 7 (loD (cComp (iS (cV 4)) (hN 5) (cYes) (oD (cK (.int 0))) [5])))
      (cSeq (cSet 8 (eoD (evO (loA (cCall v_reached_from 4 (aCons (cV 4) (aCons (cV 7) (aCons (cV 6) (aCons (cV 2) (aNil))))))))))
      (cSeq (loopW (lbA (cB (cBin gIsN (cBin gIx (cV 8) (cV 3)) (cK .non)))) (cSeq (cSet 9 (eoD (liD (dO (cCall v_way_back 2 (aCons (cV 8) (aCons (cV 3) (aNil))))))))
      (cSeq (cSet 10 (eoD (liA (cCB gMin (aCons (dO (cComp (iS (cV 9)) (hT 2 (hCons (hN 11) (hCons (hN 12) (hNil)))) (cYes) (cCall v_room_left 4 (aCons (cV 4) (aCons (cV 7) (aCons (cV 11) (aCons (cV 12) (aNil)))))) [11, 12])) (aNil))))))
      (cSeq (cFor (iSX (liD (cV 9))) (gT 2 (gCons (gN 11) (gCons (gN 12) (gNil)))) (cAugS gAddI (pV 7) (cV 11) (cBin gMul (cV 12) (cV 10))) [11, 12])
      (cSet 8 (eoD (evO (loA (cCall v_reached_from 4 (aCons (cV 4) (aCons (cV 7) (aCons (cV 6) (aCons (cV 2) (aNil))))))))))))) [9, 10, 11, 12] 100000000)
      (cSeq (cSet 13 (loD (cComp (iP kRange1 (aCons (cV 0) (aNil))) (hN 14) (cB (cBin gIsN (cBin gIx (cV 8) (cV 14)) (cK .non))) (oD (cV 14)) [14])))
      (cRet (eTupO (eoCons (loA (cCall v_net_out 3 (aCons (cV 4) (aCons (cV 7) (aCons (cV 2) (aNil)))))) (eoCons (cMv 7) (eoCons (cMv 13) (eoNil))))))))))))
def v_l_exchange : MFn := fnM 11 [0] (cSeq (cSet 5 (eoD (evO (loD (cComp (iP kRange1 (aCons (cV 1) (aNil))) (hN 6) (cAnd (cB (cBin gNe (cV 6) (cV 2))) (cB (cBin gNe (cV 6) (cV 3)))) (oD (cV 6)) [6])))))
      (cSeq (cSet 7 (eoD (evO (eCallM v_l_draw 2 [0] (erS 0 (erD (liD (cCB gLenA (aCons (cV 5) (aNil)))) (erNil)))))))
      (cSeq (cSet 5 (eoD (liD (cBin gAdd (dO (cSl (cV 5) (partI (cV 7)) (noPart))) (dO (cSl (cV 5) (noPart) (partI (cV 7))))))))
      (cSeq (cSet 8 (eoD (evO (eCB gMax2 (eaCons (liD (cK (.int 1))) (eaCons (evO (eCallM v_l_capacity 2 [0] (erS 0 (erD (liD (cV 4)) (erNil))))) (eaNil)))))))
      (cSeq (cSet 9 (eoD (liD (dO (cLst (oCons (oD (cTup (aCons (cV 2) (aCons (cBin gIx (cV 5) (cK (.int 0))) (aNil))))) (oCons (oD (cTup (aCons (cBin gIx (cV 5) (cK (.int 0))) (aCons (cBin gIx (cV 5) (cK (.int 1))) (aNil))))) (oCons (oD (cTup (aCons (cBin gIx (cV 5) (cK (.int 1))) (aCons (cV 3) (aNil))))) (oCons (oD (cTup (aCons (cBin gIx (cV 5) (cK (.int 0))) (aCons (cBin gIx (cV 5) (cK (.int 2))) (aNil))))) (oNil))))))))))
      (cSeq (cSet 9 (eoD (liD (cBin gAdd (cV 9) (dO (cLst (oCons (oD (cTup (aCons (cBin gIx (cV 5) (cK (.int 2))) (aCons (cV 3) (aNil))))) (oCons (oD (cTup (aCons (cV 2) (aCons (cBin gIx (cV 5) (cK (.int 3))) (aNil))))) (oCons (oD (cTup (aCons (cBin gIx (cV 5) (cK (.int 3))) (aCons (cBin gIx (cV 5) (cK (.int 1))) (aNil))))) (oNil))))))))))
      (cRet (loD (cComp (iS (cV 9)) (hN 10) (cYes) (oD (cTup (aCons (cBin gIx (cV 10) (cK (.int 0))) (aCons (cBin gIx (cV 10) (cK (.int 1))) (aCons (cV 8) (aNil)))))) [10])))))))))
def v_l_ways : MFn := fnM 10 [0] (cSeq (cSet 5 (loD (cLst (oNil))))
      (cSeq (cFor (iX kRange1 (eaCons (evO (eCallM v_l_draw 2 [0] (erS 0 (erD (liD (cK (.int 4))) (erNil))))) (eaNil))) (gN 6) (cSeq (cSet 7 (eoD (liD (cV 2))))
      (cSeq (cFor (iX kRange1 (eaCons (evO (eCallM v_l_draw 2 [0] (erS 0 (erD (liD (cK (.int 4))) (erNil))))) (eaNil))) (gN 8) (cSeq (cSet 9 (eoD (evO (eCallM v_l_other 3 [0] (erS 0 (erD (liD (cV 7)) (erD (liD (cV 1)) (erNil))))))))
      (cSeq (cApp 5 (eoD (eTup (eaCons (liD (cV 7)) (eaCons (liD (cV 9)) (eaCons (evO (eCallM v_l_capacity 2 [0] (erS 0 (erD (liD (cV 4)) (erNil))))) (eaNil)))))))
      (cSet 7 (eoD (liD (cV 9)))))) [8, 9])
      (cIfS (lbA (cB (cBin gNe (cV 7) (cV 3)))) (cApp 5 (eoD (eTup (eaCons (liD (cV 7)) (eaCons (liD (cV 3)) (eaCons (evO (eCallM v_l_capacity 2 [0] (erS 0 (erD (liD (cV 4)) (erNil))))) (eaNil))))))) (cNx)))) [6, 7, 8, 9])
      (cRet (cMv 5))))
def v_l_more : MFn := fnM 8 [0, 1] (cSeq (cSet 4 (eoD (evO (eCallM v_l_draw 2 [0] (erS 0 (erD (liD (cV 2)) (erNil)))))))
      (cSeq (cSet 5 (eoD (evO (eCallM v_l_other 3 [0] (erS 0 (erD (liD (cV 4)) (erD (liD (cV 2)) (erNil))))))))
      (cSeq (cSet 6 (eoD (evO (eCallM v_l_draw 2 [0] (erS 0 (erD (liD (cK (.int 8))) (erNil)))))))
      (cSeq (cIfS (lbA (cB (cBin gEq (cV 6) (cK (.int 3))))) (cSet 5 (eoD (liD (cV 4)))) (cNx))
      (cSeq (cIfS (lbA (cAnd (cB (cBin gLt (cV 6) (cK (.int 3)))) (cB (cBin gGt (cCB gLenA (aCons (cV 1) (aNil))) (cK (.int 0)))))) (cSeq (cSet 7 (eoD (cItem 1 (evO (eCallM v_l_draw 2 [0] (erS 0 (erD (liA (cCB gLenA (aCons (cV 1) (aNil)))) (erNil))))))))
      (cSeq (cSet 4 (eoD (liD (cBin gIx (cV 7) (cK (.int 0))))))
      (cSeq (cSet 5 (eoD (liD (cBin gIx (cV 7) (cK (.int 1))))))
      (cIfS (lbA (cB (cBin gEq (cV 6) (cK (.int 0))))) (cSeq (cSet 4 (eoD (liD (cBin gIx (cV 7) (cK (.int 1))))))
      (cSet 5 (eoD (liD (cBin gIx (cV 7) (cK (.int 0))))))) (cNx))))) (cNx))
      (cRet (eoD (eTup (eaCons (liD (cV 4)) (eaCons (liD (cV 5)) (eaCons (evO (eCallM v_l_capacity 2 [0] (erS 0 (erD (liD (cV 3)) (erNil))))) (eaNil))))))))))))
def v_l_shows : PFn := fnP 9 (cSeq (cIfS (lbA (cOr (cNot (cTr (cCB gIsi (aCons (cV 4) (aCons (cK (.ty "tuple")) (aNil)))))) (cOr (cB (cBin gNe (cCB gLenA (aCons (cV 4) (aNil))) (cK (.int 3)))) (cNot (cTr (dO (cCall v_l_whole 1 (aCons (cBin gIx (cV 4) (cK (.int 0))) (aNil))))))))) (cRet (eoD (liD (cK (.bl false))))) (cNx))
      (cSeq (cIfS (lbA (cOr (cNot (cTr (dO (cCall v_l_wholes 1 (aCons (cBin gIx (cV 4) (cK (.int 1))) (aNil)))))) (cNot (cTr (dO (cCall v_l_wholes 1 (aCons (cBin gIx (cV 4) (cK (.int 2))) (aNil)))))))) (cRet (eoD (liD (cK (.bl false))))) (cNx))
      (cSeq (cSet 5 (eoD (liD (cBin gIx (cV 4) (cK (.int 2))))))
      (cSeq (cIfS (lbA (cOr (cNot (cTr (dO (cCall v_l_ascends 2 (aCons (cV 5) (aCons (cV 0) (aNil))))))) (cOr (cB (cBin gNotIn (cV 2) (cV 5))) (cB (cBin gIn (cV 3) (cV 5)))))) (cRet (eoD (liD (cK (.bl false))))) (cNx))
      (cSeq (cSet 6 (eoD (liD (cK (.int 0)))))
      (cSeq (cFor (iSX (liD (cV 1))) (gN 7) (cIfS (lbA (cAnd (cB (cBin gIn (cBin gIx (cV 7) (cK (.int 0))) (cV 5))) (cB (cBin gNotIn (cBin gIx (cV 7) (cK (.int 1))) (cV 5))))) (cSet 6 (eoD (liD (cBin gAdd (cV 6) (cBin gIx (cV 7) (cK (.int 2))))))) (cNx)) [7])
      (cSeq (cSet 8 (eoD (liD (dO (cCall v_l_flow 5 (aCons (cV 0) (aCons (cV 1) (aCons (cV 2) (aCons (cV 3) (aCons (cBin gIx (cV 4) (cK (.int 1))) (aNil)))))))))))
      (cRet (eoD (liD (cAndV (cBin gIsN (cV 8) (cK .non)) (cAndV (cBin gEq (cV 8) (cBin gIx (cV 4) (cK (.int 0)))) (cBin gEq (cV 6) (cBin gIx (cV 4) (cK (.int 0))))))))))))))))
def v_l_net : MFn := fnM 9 [0] (cSeq (cSet 6 (eoD (liD (cK (.int 5)))))
      (cSeq (cIfS (lbA (cB (cBin gEq (cV 1) (cK (.int 0))))) (cSet 6 (eoD (liD (cK (.int 61))))) (cNx))
      (cSeq (cIfS (lbA (cOr (cB (cBin gEq (cV 1) (cK (.int 1)))) (cB (cBin gEq (cV 1) (cK (.int 2)))))) (cSeq (cSet 6 (eoD (liD (cK (.int 3)))))
      (cSet 7 (eCallM v_l_exchange 5 [0] (erS 0 (erD (liD (cV 2)) (erD (liD (cV 3)) (erD (liD (cV 4)) (erD (liD (cV 5)) (erNil))))))))) (cSet 7 (eCallM v_l_ways 5 [0] (erS 0 (erD (liD (cV 2)) (erD (liD (cV 3)) (erD (liD (cV 4)) (erD (liD (cV 5)) (erNil)))))))))
      (cSeq (cFor (iX kRange1 (eaCons (evO (eCallM v_l_draw 2 [0] (erS 0 (erD (liD (cV 6)) (erNil))))) (eaNil))) (gN 8) (cApp 7 (eCallM v_l_more 4 [0, 1] (erS 0 (erS 7 (erD (liD (cV 2)) (erD (liD (cV 5)) (erNil))))))) [8])
      (cSeq (cSet 8 (eoD (evO (eCallM v_l_draw 2 [0] (erS 0 (erD (liA (cBin gAdd (cCB gLenA (aCons (cV 7) (aNil))) (cK (.int 1)))) (erNil)))))))
      (cRet (loA (cBinO gAdd (dO (cSl (cV 7) (partI (cV 8)) (noPart))) (dO (cSl (cV 7) (noPart) (partI (cV 8))))))))))))
def v_law : PFn := fnP 13 (cSeq (cSet 1 (loD (cCall v_l_source 2 (aCons (cV 0) (aCons (cK (.int 0)) (aNil))))))
      (cSeq (cSet 2 (eoD (evO (eCallM v_l_draw 2 [0] (erS 1 (erD (liD (cK (.int 8))) (erNil)))))))
      (cSeq (cSet 3 (eoD (eBin gEq (evO (eCallM v_l_draw 2 [0] (erS 1 (erD (liD (cK (.int 4))) (erNil))))) (liD (cK (.int 0))))))
      (cSeq (cSet 4 (eoD (evO (eCallM v_l_draw 2 [0] (erS 1 (erD (liD (cK (.int 2))) (erNil)))))))
      (cSeq (cSet 5 (eoD (eBin gAdd (liD (cK (.int 2))) (evO (eCallM v_l_draw 2 [0] (erS 1 (erD (liD (cK (.int 5))) (erNil))))))))
      (cSeq (cIfS (lbA (cB (cBin gEq (cV 2) (cK (.int 0))))) (cSet 5 (eoD (eBin gAdd (liD (cK (.int 7))) (evO (eCallM v_l_draw 2 [0] (erS 1 (erD (liD (cK (.int 14))) (erNil)))))))) (cNx))
      (cSeq (cIfS (lbA (cOr (cB (cBin gEq (cV 2) (cK (.int 1)))) (cB (cBin gEq (cV 2) (cK (.int 2)))))) (cSet 5 (eoD (eBin gAdd (liD (cK (.int 6))) (evO (eCallM v_l_draw 2 [0] (erS 1 (erD (liD (cK (.int 3))) (erNil)))))))) (cNx))
      (cSeq (cSet 6 (eoD (evO (eCallM v_l_draw 2 [0] (erS 1 (erD (liD (cV 5)) (erNil)))))))
      (cSeq (cSet 7 (eoD (evO (eCallM v_l_other 3 [0] (erS 1 (erD (liD (cV 6)) (erD (liD (cV 5)) (erNil))))))))
      (cSeq (cSet 8 (eoD (evO (eCallM v_l_net 6 [0] (erO (loD (cCall v_l_source 2 (aCons (cV 0) (aCons (cK (.int 1)) (aNil))))) (erD (liD (cV 2)) (erD (liD (cV 5)) (erD (liD (cV 6)) (erD (liD (cV 7)) (erD (liD (cV 3)) (erNil)))))))))))
      (cSeq (cSet 9 (eoD (liD (dO (cCall v_l_handed 2 (aCons (cV 4) (aCons (cV 8) (aNil))))))))
      (cSeq (cSet 10 (loD (cCall v_greatest_flow 4 (aCons (cV 5) (aCons (cV 9) (aCons (cV 6) (aCons (cV 7) (aNil))))))))
      (cSeq (cIfS (lbA (cOr (cNot (cTr (dO (cCall v_l_shows 5 (aCons (cV 5) (aCons (cV 8) (aCons (cV 6) (aCons (cV 7) (aCons (cV 10) (aNil)))))))))) (cB (cBin gNe (cCB gList (aCons (cV 9) (aNil))) (cV 8))))) (cRet (eoD (liD (cK (.bl false))))) (cNx))
      (cSeq (cSet 11 (eoD (liA (cCB gRepr (aCons (cV 10) (aNil))))))
      (cSeq (cSet 12 (eoD (liA (cCB gLenA (aCons (cBin gIx (cV 10) (cK (.int 2))) (aNil))))))
      (cSeq (cAppP (pIxT (pV 10) 1) (cV 5))
      (cSeq (cIfS (lbA (cB (cBin gNe (cCB gLenA (aCons (cBin gIx (cV 10) (cK (.int 2))) (aNil))) (cV 12)))) (cRet (eoD (liD (cK (.bl false))))) (cNx))
      (cSeq (cAppP (pIxT (pV 10) 2) (cBin gSub (cK (.int 0)) (cV 5)))
      (cRet (eoD (liD (cBin gEq (cCB gRepr (aCons (dO (cCall v_greatest_flow 4 (aCons (cV 5) (aCons (dO (cCall v_l_handed 2 (aCons (cV 4) (aCons (cV 8) (aNil))))) (aCons (cV 6) (aCons (cV 7) (aNil))))))) (aNil))) (cV 11)))))))))))))))))))))))
end Lw
namespace Lw.Fr
open PySem PySem.Spec PyProof.Rows L2 FL VL Fw
abbrev iL (K : List Int) : D := .lst (K.map .int)
abbrev iO (K : List Int) : O := .l (K.map fun i => .d (.int i))
/-! ### rules -/
def ruD (r : Rule) : D := .tup [.int (r.1 : Int), .int (r.2.1 : Int), .int r.2.2.1, .int r.2.2.2]
def rusD (b : Bool) (R : List Rule) : D := sq b (R.map ruD)
/-- a rule that stands -/
structure VR (n : Nat) (r : Rule) : Prop where
  f : r.1 < n
  s : r.2.1 < n
  ne : r.1 ≠ r.2.1
  le : r.2.2.1 ≤ r.2.2.2
theorem iSX_li {pf : PEF} {ω : Om} {d : D} {items : List ItD} (e : pf (viewD ω) = .ok d) (k : kSeq [d] = some items) : iSX (liD pf) ω = .ok (items, ω) := by
  simp [iSX, e, k]
/-! ### the flood -/
def bF (f : Fw.Fl) : Nat → D := fun k => .bl (f k)
end Lw.Fr
namespace Lw.Fr
open PySem PySem.Spec PyProof.Rows L2 FL VL Fw
/-! ### arcs with their links -/
abbrev LArc := Arc × D
def arcD (p : LArc) : D := .tup [.int (p.1.1 : Int), .int (p.1.2.1 : Int), .int p.1.2.2, p.2]
def arcsD (al : List LArc) : D := .lst (al.map arcD)
def lks (q : Rule × Nat) : List LArc := [((q.1.1, q.1.2.1, q.1.2.2.2), .tup [.str "rule", .int (q.2 : Nat), .str "up"]), ((q.1.2.1, q.1.1, -q.1.2.2.1), .tup [.str "rule", .int (q.2 : Nat), .str "down"])]
def lkAll (R : List Rule) : List LArc := R.zipIdx.flatMap lks
/-! ### one pass -/
def oF (f : Nat → OI) : Nat → D := fun j => optI (f j)
def tF (T : Tb) : Nat → Nat → D := fun i => oF (T i)
end Lw.Fr
namespace Lw.Fr
open PySem PySem.Spec PyProof.Rows L2 FL VL Fw
/-- the closed table, or None -/
structure Clos (n : Nat) (T : Tb) (o : O) : Prop where
  or : (o = .d .non ∧ ∃ v, v < n ∧ ∃ d, d < 0 ∧ T v v = some d) ∨ (o = gO n n (tF T) ∧ ∀ v, v < n → ∀ d, T v v = some d → 0 ≤ d)
/-! ### the frame -/
def frO (n : Nat) (R : List Rule) : O := .i "Frame" [("size", .d (.int (n : Int))), ("rules", .d (rusD true R))]
def frD (n : Nat) (R : List Rule) : D := .obj "Frame" [("size", .int (n : Int)), ("rules", rusD true R)]
/-- a frame that is let in: its rules hold in levels and connect all nodes -/
structure FrOk (n : Nat) (b : Nat → Int) (w : Int) (R : List Rule) : Prop where
  n1 : 1 ≤ n
  n16 : n ≤ 16
  len : R.length ≤ 60
  vr : ∀ r ∈ R, VR n r
  hol : ∀ r ∈ R, Hol b r
  tree : Tree n w R
end Lw.Fr
namespace Lw.Fr
open PySem PySem.Spec PyProof.Rows L2 FL VL Fw
def lvD (c : Bool) (L : List Int) : D := sq c (L.map .int)
def lev (L : List Int) : Nat → Int := fun k => L.getD k 0
instance (b : Nat → Int) (r : Rule) : Decidable (Hol b r) := inferInstanceAs (Decidable (_ ∧ _))
/-- the law's test, for levels of any number -/
def kps (R : List Rule) (L : List Int) : Bool := R.all fun r => !(decide (r.1 < L.length) && decide (r.2.1 < L.length)) || decide (Hol (lev L) r)
/-! ### what is asked of a frame -/
abbrev Rows := List (List Int)
def rowsD (rows : Rows) : D := .lst (rows.map iL)
def quad (r : Rule) : List Int := [(r.1 : Int), (r.2.1 : Int), r.2.2.1, r.2.2.2]
end Lw.Fr
namespace Lw.Fr
open PySem PySem.Spec PyProof.Rows L2 FL VL Fw
def aD (a : Arc) : D := .tup [.int (a.1 : Int), .int (a.2.1 : Int), .int a.2.2]
def asD (A : List Arc) : D := .lst (A.map aD)
end Lw.Fr
namespace Lw.Fr
open PySem PySem.Spec PyProof.Rows L2 FL VL Fw
theorem cut_from {α : Type} (l : List α) (t : Nat) : cutG l (some (t : Int)) none = l.drop t := by
  show (l.drop (HT.sIx l.length 0 (some (t : Int)))).take (HT.sIx l.length l.length none - HT.sIx l.length 0 (some (t : Int))) = _
  rw [HT.sIx_none, HT.sIx_nat]
  rcases Nat.lt_or_ge t l.length with h | h
  · rw [Nat.min_eq_left (by omega), List.take_of_length_le (by rw [List.length_drop]; exact Nat.le_refl _)]
  · rw [Nat.min_eq_right h, List.drop_length, List.take_nil, List.drop_of_length_le h]
theorem cut_to {α : Type} (l : List α) (t : Nat) : cutG l none (some (t : Int)) = l.take t := by
  show (l.drop (HT.sIx l.length 0 none)).take (HT.sIx l.length l.length (some (t : Int)) - HT.sIx l.length 0 none) = _
  rw [HT.sIx_none, HT.sIx_nat, List.drop_zero]
  rcases Nat.lt_or_ge t l.length with h | h
  · rw [Nat.min_eq_left (by omega), Nat.sub_zero]
  · rw [Nat.min_eq_right h, Nat.sub_zero, List.take_length, List.take_of_length_le h]
def Hung (v : Nat) (w far : Int) (R : List Rule) : Prop := ∃ o, o < v ∧ ∃ r ∈ R, ((r.1 = o ∧ r.2.1 = v) ∨ (r.1 = v ∧ r.2.1 = o)) ∧ r.2.2.2 - r.2.2.1 ≤ w ∧ -(far + w) ≤ r.2.2.1 ∧ r.2.2.2 ≤ far + w
/-- nodes 0 to k have come -/
structure Part (n k : Nat) (w far : Int) (base : List Int) (R : List Rule) : Prop where
  bl : base.length = k + 1
  b0 : lev base 0 = 0
  bd : ∀ i, i ≤ k → -((i : Int) * far) ≤ lev base i ∧ lev base i ≤ (i : Int) * far
  len : R.length ≤ k + 1
  vr : ∀ r ∈ R, VR n r ∧ r.1 ≤ k ∧ r.2.1 ≤ k ∧ Hol (lev base) r
  tree : ∀ v, 1 ≤ v → v ≤ k → Hung v w far R
/-- what the law draws: levels, and a frame around them -/
structure Drawn (n : Nat) (w far : Int) (base : List Int) (R : List Rule) : Prop where
  fr : FrOk n (lev base) w R
  bl : base.length = n
  b0 : lev base 0 = 0
  bd : ∀ i, i < n → -((i : Int) * far) ≤ lev base i ∧ lev base i ≤ (i : Int) * far
  rl : R.length ≤ n
  hg : ∀ v, 1 ≤ v → v < n → Hung v w far R
abbrev rO (R : List Rule) : O := .l (R.map fun r => .d (ruD r))
end Lw.Fr
namespace Lw.Fr
open PySem PySem.Spec PyProof.Rows L2 FL VL Fw
@[simp] theorem optD_n : optD none = .non := (rfl)
@[simp] theorem optD_s {i : Int} : optD (some i) = .int i := (rfl)
@[simp] theorem isNon_o {x : Option Int} : isNon (optD x) = x.isNone := by cases x <;> rfl
@[simp] theorem flat_o {x : Option Int} : flat (optD x) = true := by cases x <;> simp
section
variable {t : Tell} {cs : List Str}
theorem frz_t : frz t.o = t.c := by
  unfold Tell.o Tell.fs Tell.c
  simp [Tell.fs]
end
/-! ### tells about nodes -/
def tellsD (b : Bool) (L : List TN) : D := sq b (L.map fun t => t.t.d)
def clD (b : Bool) (L : List TN) : D := sq b (L.map fun t => t.t.c)
/-! ### the arcs of claims -/
def ckD (t : TN) : D := .tup [.int (t.f : Int), .int (t.s : Int), optD t.lo, optD t.hi]
def lk1 (i : Nat) (s : Str) (a : Arc) : LArc := (a, .tup [.str "claim", .int (i : Nat), .str s])
def cup (i f s : Nat) : Option Int → List LArc
  | some h => [lk1 i "up" (f, s, h)]
  | none => []
def cdn (i f s : Nat) : Option Int → List LArc
  | some l => [lk1 i "down" (s, f, -l)]
  | none => []
def cks (q : TN × Nat) : List LArc := cup q.2 q.1.f q.1.s q.1.hi ++ cdn q.2 q.1.f q.1.s q.1.lo
def carc1 (t : TN) : List Arc := (match t.hi with | some h => [(t.f, t.s, h)] | none => []) ++ (match t.lo with | some l => [(t.s, t.f, -l)] | none => [])
def ckAll (L : List TN) : List LArc := L.zipIdx.flatMap cks
/-- whether a tell is true -/
def Tru (b : Nat → Int) (t : TN) : Prop := (∀ l, t.lo = some l → l ≤ b t.s - b t.f) ∧ ∀ h, t.hi = some h → b t.s - b t.f ≤ h
theorem nIn {α : Type} [DecidableEq α] {e : α → D} {k : Nat} {p : α → PyData} (h : EqE e k p) (hk : k + 1 ≤ 64) (a : α) (xs : List α) : gNotIn (e a) (.lst (xs.map e)) = some (.d (.bl (!decide (a ∈ xs)))) := by
  have e1 : pyD (.lst (xs.map e)) = some (.list (xs.map p)) := h.lst.py xs
  show gInG true (e a) (.lst (xs.map e)) = _
  unfold gInG
  rw [h.py, e1]
  show (if _ then _ else _) = _
  rw [if_pos ⟨h.shaped (by omega) a, h.shapedL hk xs⟩]
  congr 3
  rw [if_pos rfl]
  congr 1
  rw [Bool.eq_iff_iff]
  simp [h.eq]
theorem ninS (x : Int) (S : List Int) : gNotIn (.int x) (iL S) = some (.d (.bl (!decide (x ∈ S)))) := (nIn EqE.int (by decide) x S).trans (congrArg (fun b => some (O.d (D.bl (!b)))) (decide_eq_decide.mpr Iff.rfl))
def sk (S : List Int) (q : TN × Nat) : Bool := !decide ((q.2 : Int) ∈ S)
/-- the tells that are not skipped -/
def rst (S : List Int) (L : List TN) : List TN := (L.zipIdx.filter (sk S)).map fun q => q.1
def rkA (S : List Int) (L : List (TN × Nat)) : List LArc := (L.filter (sk S)).flatMap cks
end Lw.Fr
namespace Lw
open PySem PySem.Spec PyProof.Rows L2 FL VL
theorem iSX_li {pf : PEF} {ω : Om} {d : D} {items : List ItD} (e : pf (viewD ω) = .ok d) (k : kSeq [d] = some items) : iSX (liD pf) ω = .ok (items, ω) := by
  unfold iSX
  rw [liD_ap, e]
  simp [k]
theorem q_seq {c : Bool} {L : List Int} : kSeq [qL c L] = some (L.map fun i => .one (.int i)) := by unfold qL; rw [sq_seq, List.map_map]; rfl
theorem flat_q {L : List Int} : flat (qL true L) = true := by
  unfold qL
  show flat (.tup _) = true
  unfold flat
  induction L with
  | nil => rfl
  | cons a L ih => rw [List.map_cons]; unfold flatL; rw [ih]; rfl
theorem flat_r {ws : LL} : flat (qR true true ws) = true := by
  unfold qR
  show flat (.tup _) = true
  unfold flat
  induction ws with
  | nil => rfl
  | cons a L ih => rw [List.map_cons]; unfold flatL; rw [ih, flat_q]; rfl
theorem nIn {α : Type} [DecidableEq α] {e : α → D} {k : Nat} {p : α → PyData} (h : EqE e k p) (hk : k + 1 ≤ 64) (a : α) (xs : List α) : gNotIn (e a) (.lst (xs.map e)) = some (.d (.bl (!decide (a ∈ xs)))) := by
  have e1 : pyD (.lst (xs.map e)) = some (.list (xs.map p)) := h.lst.py xs
  show gInG true (e a) (.lst (xs.map e)) = _
  unfold gInG
  rw [h.py, e1]
  show (if _ then _ else _) = _
  rw [if_pos ⟨h.shaped (by omega) a, h.shapedL hk xs⟩]
  congr 3
  rw [if_pos rfl]
  congr 1
  rw [Bool.eq_iff_iff]
  simp [h.eq]
/-! ### masks -/
def maskI (L : List Int) : Int := L.foldl (fun m i => Builtin.bitOr m (1 * 2 ^ i.toNat)) 0
def mI (F : List Nat) : List Int := F.map fun n : Nat => (n : Int)
/-! ### a listed lot -/
section
variable {ld : D} {S : List Int} {x : Int} {i : Nat}
end
def lotsF (ws : LL) : List (Str × O) := [("lots", .d (qR true true (dueL ws))), ("masks", .d (.tup ((dueL ws).map fun S => .int (maskI S))))]
end Lw
namespace Lw
open PySem PySem.Spec PyProof.Rows L2 FL VL
theorem eqD_str (a b : Str) (ha : SeqAt.shaped (.str a) = true) (hb : SeqAt.shaped (.str b) = true) : eqD (.str a) (.str b) = some (a == b) := by
  have h1 : ∀ z : Str, pyD (.str z) = some (.str z) := fun z => by unfold pyD; rfl
  unfold eqD
  rw [h1, h1]
  show (if SeqAt.shaped (.str a) = true ∧ SeqAt.shaped (.str b) = true then some (PyData.eqv (.str a) (.str b)) else none) = _
  rw [if_pos ⟨ha, hb⟩, PyData.eqv]
theorem gEq_str (a b : Str) (ha : SeqAt.shaped (.str a) = true) (hb : SeqAt.shaped (.str b) = true) : gEq (.str a) (.str b) = some (.d (.bl (a == b))) := by unfold gEq; rw [eqD_str a b ha hb]; rfl
@[simp] theorem we_most_most : gEq (.str "most") (.str "most") = some (.d (.bl true)) := by rw [gEq_str _ _ (by decide +kernel) (by decide +kernel), beq_self_eq_true]
@[simp] theorem we_most_within : gEq (.str "most") (.str "within") = some (.d (.bl false)) := by rw [gEq_str _ _ (by decide +kernel) (by decide +kernel), show (("most" : Str) == "within") = false by decide +kernel]
@[simp] theorem we_most_lots : gEq (.str "most") (.str "lots") = some (.d (.bl false)) := by rw [gEq_str _ _ (by decide +kernel) (by decide +kernel), show (("most" : Str) == "lots") = false by decide +kernel]
@[simp] theorem we_most_both : gEq (.str "most") (.str "both") = some (.d (.bl false)) := by rw [gEq_str _ _ (by decide +kernel) (by decide +kernel), show (("most" : Str) == "both") = false by decide +kernel]
@[simp] theorem we_most_either : gEq (.str "most") (.str "either") = some (.d (.bl false)) := by rw [gEq_str _ _ (by decide +kernel) (by decide +kernel), show (("most" : Str) == "either") = false by decide +kernel]
@[simp] theorem we_within_most : gEq (.str "within") (.str "most") = some (.d (.bl false)) := by rw [gEq_str _ _ (by decide +kernel) (by decide +kernel), show (("within" : Str) == "most") = false by decide +kernel]
@[simp] theorem we_within_within : gEq (.str "within") (.str "within") = some (.d (.bl true)) := by rw [gEq_str _ _ (by decide +kernel) (by decide +kernel), beq_self_eq_true]
@[simp] theorem we_within_lots : gEq (.str "within") (.str "lots") = some (.d (.bl false)) := by rw [gEq_str _ _ (by decide +kernel) (by decide +kernel), show (("within" : Str) == "lots") = false by decide +kernel]
@[simp] theorem we_within_both : gEq (.str "within") (.str "both") = some (.d (.bl false)) := by rw [gEq_str _ _ (by decide +kernel) (by decide +kernel), show (("within" : Str) == "both") = false by decide +kernel]
@[simp] theorem we_within_either : gEq (.str "within") (.str "either") = some (.d (.bl false)) := by rw [gEq_str _ _ (by decide +kernel) (by decide +kernel), show (("within" : Str) == "either") = false by decide +kernel]
@[simp] theorem we_lots_most : gEq (.str "lots") (.str "most") = some (.d (.bl false)) := by rw [gEq_str _ _ (by decide +kernel) (by decide +kernel), show (("lots" : Str) == "most") = false by decide +kernel]
@[simp] theorem we_lots_within : gEq (.str "lots") (.str "within") = some (.d (.bl false)) := by rw [gEq_str _ _ (by decide +kernel) (by decide +kernel), show (("lots" : Str) == "within") = false by decide +kernel]
@[simp] theorem we_lots_lots : gEq (.str "lots") (.str "lots") = some (.d (.bl true)) := by rw [gEq_str _ _ (by decide +kernel) (by decide +kernel), beq_self_eq_true]
@[simp] theorem we_lots_both : gEq (.str "lots") (.str "both") = some (.d (.bl false)) := by rw [gEq_str _ _ (by decide +kernel) (by decide +kernel), show (("lots" : Str) == "both") = false by decide +kernel]
@[simp] theorem we_lots_either : gEq (.str "lots") (.str "either") = some (.d (.bl false)) := by rw [gEq_str _ _ (by decide +kernel) (by decide +kernel), show (("lots" : Str) == "either") = false by decide +kernel]
@[simp] theorem we_both_most : gEq (.str "both") (.str "most") = some (.d (.bl false)) := by rw [gEq_str _ _ (by decide +kernel) (by decide +kernel), show (("both" : Str) == "most") = false by decide +kernel]
@[simp] theorem we_both_within : gEq (.str "both") (.str "within") = some (.d (.bl false)) := by rw [gEq_str _ _ (by decide +kernel) (by decide +kernel), show (("both" : Str) == "within") = false by decide +kernel]
@[simp] theorem we_both_lots : gEq (.str "both") (.str "lots") = some (.d (.bl false)) := by rw [gEq_str _ _ (by decide +kernel) (by decide +kernel), show (("both" : Str) == "lots") = false by decide +kernel]
@[simp] theorem we_both_both : gEq (.str "both") (.str "both") = some (.d (.bl true)) := by rw [gEq_str _ _ (by decide +kernel) (by decide +kernel), beq_self_eq_true]
@[simp] theorem we_both_either : gEq (.str "both") (.str "either") = some (.d (.bl false)) := by rw [gEq_str _ _ (by decide +kernel) (by decide +kernel), show (("both" : Str) == "either") = false by decide +kernel]
@[simp] theorem we_either_most : gEq (.str "either") (.str "most") = some (.d (.bl false)) := by rw [gEq_str _ _ (by decide +kernel) (by decide +kernel), show (("either" : Str) == "most") = false by decide +kernel]
@[simp] theorem we_either_within : gEq (.str "either") (.str "within") = some (.d (.bl false)) := by rw [gEq_str _ _ (by decide +kernel) (by decide +kernel), show (("either" : Str) == "within") = false by decide +kernel]
@[simp] theorem we_either_lots : gEq (.str "either") (.str "lots") = some (.d (.bl false)) := by rw [gEq_str _ _ (by decide +kernel) (by decide +kernel), show (("either" : Str) == "lots") = false by decide +kernel]
@[simp] theorem we_either_both : gEq (.str "either") (.str "both") = some (.d (.bl false)) := by rw [gEq_str _ _ (by decide +kernel) (by decide +kernel), show (("either" : Str) == "both") = false by decide +kernel]
@[simp] theorem we_either_either : gEq (.str "either") (.str "either") = some (.d (.bl true)) := by rw [gEq_str _ _ (by decide +kernel) (by decide +kernel), beq_self_eq_true]

def iO (L : List Int) : O := .l (L.map fun i => .d (.int i))
/-! ### objects -/
def doO : Pl → O
  | .most n => .i "AtMost" [("count", .d (.int n))]
  | .within n => .i "Within" [("limit", .d (.int n))]
  | .lots ws => .i "Lots" [("lots", .d (qR true true (dueL ws))), ("masks", .d (masksD (dueL ws)))]
  | .both a b => .i "Both" [("first", .d (doD a)), ("second", .d (doD b))]
  | .either a b => .i "Either" [("first", .d (doD a)), ("second", .d (doD b))]
/-! ### what a plan allows, by the law -/
end Lw
namespace Lw
open PySem PySem.Spec PyProof.Rows L2 FL VL
end Lw
namespace Lw
open PySem PySem.Spec PyProof.Rows L2 FL VL
section
variable {ω : Om} {i j : Nat} {nx ct bk : Om → Prop} {rt : O → Om → Prop}
theorem x_drawA {pe : PEF} {Q : O → Om → Prop} {s : Int × Int} {n : Int} {f : MFn} (hf : f = v_draw) (h : ω[i]? = some (some (srcO s))) (hn : pe (viewA ω) = .ok (.int n)) (h0 : 0 < n) (h1 : n < 2 ^ 64) (q : ∀ r s', 0 ≤ r → r < n → Q (.d (.int r)) (ω.set i (some (srcO s')))) : WX (eCallM f 2 [0] (erS i (erD (liA pe) erNil)) ω) Q :=
  x_drawX hf ⟨_, h⟩ (x_liA hn rfl ⟨n, s, rfl, h, h0, h1, q⟩)
theorem w_forX {fi : XIF} {gt : VL.GF} {f : VS} {cl : List Nat} (h : WX (fi ω) fun items ω0 => W (VL.cFor (fun ω => .ok (items, ω)) gt f cl ω0) nx ct bk rt) : W (VL.cFor fi gt f cl ω) nx ct bk rt := by
  unfold VL.cFor at h ⊢
  exact W.bnd (h.imp fun a ω q => q)
theorem x_iX1 {k : KI} {fe : EV} {Q : List ItD → Om → Prop} (h : WX (fe ω) fun d ω1 => ∃ items, k [d] = some items ∧ Q items ω1) : WX (iX k (eaCons fe eaNil) ω) Q := by
  unfold iX
  refine WX.bnd (x_acons (h.imp fun d ω1 ⟨items, e, q⟩ => x_anil ?_))
  rw [e]
  exact .r q
theorem x_item {f : EV} {os0 : List O} {Q : D → Om → Prop} (h0 : ω[i]? = some (some (.l os0))) (h : WX (f ω) fun d ω1 => ∃ jn k z, d = .int jn ∧ ω1[i]? = some (some (.l os0)) ∧ ixN os0.length jn = some k ∧ os0[k]? = some (.d z) ∧ Q z ω1) : WX (cItem i f ω) Q := by
  unfold cItem
  rw [h0]
  refine WX.bnd (h.imp fun d ω1 ⟨jn, k, z, e1, e2, e3, e4, q⟩ => ?_)
  subst e1
  simp only [e2, e3, e4]
  exact .r q
end

section
variable {ω : Om} {gt : VL.GF} {fe : EO} {ec : EB} {vs : List Nat} {Q : O → Om → Prop}
end
/-! ### members -/
def preI (m i : Nat) : List Int := ((List.range i).filter m.testBit).map fun j : Nat => (j : Int)
theorem wholes_ok {L : List Int} : v_l_wholes [qL false L] = .ok (.d (.bl true)) := by
  have ks := q_seq (c := false) (L := L)
  have isl : gIsi [qL false L, .ty "list"] = some (.d (.bl true)) := by rfl
  have wh : ∀ i : Int, v_l_whole [.int i] = .ok (.d (.bl true)) := fun i => whole_i
  generalize qL false L = wd at *
  unfold v_l_wholes
  refine w_isP ?_
  show W (cSeq _ _ [some (.d (wd)), none]) _ _ _ _
  refine t_ifF (ω1 := [some (.d (wd)), none]) (by simp [isl]) (t_nx ?_)
  refine w_seq (w_for (fun i : Int => .one (.int i)) L (fun _ ω => ω = [some (.d (wd)), none]) (ω0 := [some (.d (wd)), none]) (iSX_li (d := wd) (by simp) ks) rfl ?_ ?_)
  · rintro done i rest ω er rfl
    have w1 := wh i
    exact ⟨[some (.d (wd)), some (.d (.int (i)))], rfl, t_if1 (b := false) (ω1 := [some (.d (wd)), some (.d (.int (i)))]) (by simp [w1]) (fun h => nomatch h) fun _ => w_nx rfl⟩
  · rintro ω rfl
    exact t_ret (o := .d (.bl true)) (ω1 := [some (.d (wd)), none]) (by simp) rfl
/-! ### drawn sets -/
end Lw
namespace Lw
open PySem PySem.Spec PyProof.Rows L2 FL VL
def LtP (ct : Nat) (p : Pl) : Prop := ∀ L ∈ grs p, ∀ x ∈ L, x < (ct : Int)
/-! ### a rich plan -/
/-! ### one more number in each lot -/
end Lw
namespace Lw
open PySem PySem.Spec PyProof.Rows L2 FL VL
theorem erase_perm : ∀ {A : List Int} {k : Nat} {z : Int}, A[k]? = some z → (z :: A.eraseIdx k).Perm A
  | [], k, z, e => by simp at e
  | a :: A, 0, z, e => by cases e; exact List.Perm.refl _
  | a :: A, k + 1, z, e => by
    show (z :: a :: A.eraseIdx k).Perm (a :: A)
    exact (List.Perm.swap a z _).trans ((erase_perm (by simpa using e)).cons a)
/-! ### adding greedily -/
theorem LedP.take {p : Pl} {ms A L : List Int} (h : LedP p ms A L) (hm : ∀ x ∈ ms, 0 ≤ x) {k : Nat} {z : Int} (e : A[k]? = some z) (ha : alw p (L ++ [z]) ms = true) : LedP p ms (A.eraseIdx k) (L ++ [z]) := by
  have ep := erase_perm e
  have nd := ep.nodup_iff.mpr h.na
  have hz := List.nodup_cons.mp nd
  have zA : z ∈ A := ep.mem_iff.mp List.mem_cons_self
  have sub : ∀ x ∈ A.eraseIdx k, x ∈ A := fun x hx => ep.mem_iff.mp (List.mem_cons_of_mem _ hx)
  have rl : ∀ x ∈ L ++ [z], 0 ≤ x ∧ x < (ms.length : Int) := fun x hx => by
    rcases List.mem_append.mp hx with g | g
    · exact h.rl x g
    · rw [List.mem_singleton.mp g]; exact h.ra z zA
  refine ⟨hz.2, fun x hx => h.ra x (sub x hx), ?_, rl, fun x hx hl => ?_, ha, fun x h0 h1 => ?_⟩
  · rw [List.nodup_append]
    exact ⟨h.nl, by simp, fun a ha b hb e => h.dj z zA (by rw [← List.mem_singleton.mp hb, ← e]; exact ha)⟩
  · rcases List.mem_append.mp hl with g | g
    · exact h.dj x (sub x hx) g
    · exact hz.1 (List.mem_singleton.mp g ▸ hx)
  · rcases h.rest x h0 h1 with g | g | g
    · rcases List.mem_cons.mp (ep.mem_iff.mpr g) with e | e
      · exact .inr (.inl (List.mem_append_right _ (List.mem_singleton.mpr e)))
      · exact .inl e
    · exact .inr (.inl (List.mem_append_left _ g))
    · refine .inr (.inr (Bool.eq_false_iff.mpr fun hc => ?_))
      have hs : (L ++ [x]).Sublist (L ++ [z] ++ [x]) := (List.sublist_append_left _ _).append (List.Sublist.refl _)
      have := alw_sub hs (fun y hy => by
        have hy : 0 ≤ y ∧ y < (ms.length : Int) := by
          rcases List.mem_append.mp hy with g | g
          · exact rl y g
          · rw [List.mem_singleton.mp g]; exact ⟨h0, h1⟩
        have hk : y.toNat < ms.length := by omega
        rw [List.getD_eq_getElem?_getD, List.getElem?_eq_getElem hk]
        exact hm _ (List.getElem_mem hk)) p hc
      rw [g] at this
      cases this
theorem LedP.drop {p : Pl} {ms A L : List Int} (h : LedP p ms A L) {k : Nat} {z : Int} (e : A[k]? = some z) (ha : alw p (L ++ [z]) ms = false) : LedP p ms (A.eraseIdx k) L := by
  have ep := erase_perm e
  have nd := ep.nodup_iff.mpr h.na
  have hz := List.nodup_cons.mp nd
  have sub : ∀ x ∈ A.eraseIdx k, x ∈ A := fun x hx => ep.mem_iff.mp (List.mem_cons_of_mem _ hx)
  refine ⟨hz.2, fun x hx => h.ra x (sub x hx), h.nl, h.rl, fun x hx => h.dj x (sub x hx), h.al, fun x h0 h1 => ?_⟩
  rcases h.rest x h0 h1 with g | g | g
  · rcases List.mem_cons.mp (ep.mem_iff.mpr g) with e | e
    · rw [e]; exact .inr (.inr ha)
    · exact .inl e
  · exact .inr (.inl g)
  · exact .inr (.inr g)
theorem LedP.done {p : Pl} {ms L : List Int} (h : LedP p ms [] L) (hm : ∀ x ∈ ms, 0 ≤ x) : srt L ∈ lgF p ms := by
  refine greedy hm ⟨asc_srt (fun x hx => (h.rl x hx).1) h.nl, fun x hx => (h.rl x (mem_srt.mp hx)).2⟩ (by rw [alw_perm (srt_perm L) p]; exact h.al) fun x h0 h1 hx => ?_
  rw [alw_perm ((srt_perm L).append_right [x]) p]
  rcases h.rest x h0 h1 with g | g | g
  · cases g
  · exact absurd (mem_srt.mpr g) hx
  · exact g
end Lw
namespace Lw
open PySem PySem.Spec PyProof.Rows L2 FL VL
end Lw
/-! flows, plain -/
namespace Fg
/-! ### sums -/
def sm : Nat → (Nat → Int) → Int
  | 0, _ => 0
  | n + 1, g => sm n g + g n
theorem sm_ext {n : Nat} {g h : Nat → Int} (e : ∀ i, i < n → g i = h i) : sm n g = sm n h := by
  induction n with
  | zero => rfl
  | succ n ih =>
    show sm n g + g n = sm n h + h n
    rw [ih fun i hi => e i (by omega), e n (by omega)]
theorem sm_add {n : Nat} {g h : Nat → Int} : sm n (fun i => g i + h i) = sm n g + sm n h := by
  induction n with
  | zero => rfl
  | succ n ih =>
    show sm n (fun i => g i + h i) + (g n + h n) = (sm n g + g n) + (sm n h + h n)
    rw [ih]
    omega
theorem sm_0 {n : Nat} : sm n (fun _ => 0) = 0 := by
  induction n with
  | zero => rfl
  | succ n ih =>
    show sm n (fun _ => 0) + 0 = 0
    rw [ih]
    rfl
theorem sm_one {n k : Nat} {d : Int} : sm n (fun i => if i = k then d else 0) = if k < n then d else 0 := by
  induction n with
  | zero => rfl
  | succ n ih =>
    show sm n (fun i => if i = k then d else 0) + (if n = k then d else 0) = _
    rw [ih]
    by_cases h : n = k
    · subst h
      rw [if_neg (by omega), if_pos rfl, if_pos (by omega)]
      omega
    · rw [if_neg h]
      by_cases h2 : k < n
      · rw [if_pos h2, if_pos (by omega)]; omega
      · rw [if_neg h2, if_neg (by omega)]; omega
theorem sm_le {n : Nat} {g h : Nat → Int} (e : ∀ i, i < n → g i ≤ h i) : sm n g ≤ sm n h := by
  induction n with
  | zero => exact Int.le_refl _
  | succ n ih =>
    have h1 := ih fun i hi => e i (by omega)
    have h2 := e n (by omega)
    show sm n g + g n ≤ sm n h + h n
    omega
theorem sm_const {n : Nat} {c : Int} : sm n (fun _ => c) = (n : Int) * c := by
  induction n with
  | zero => simp [sm]
  | succ n ih =>
    show sm n (fun _ => c) + c = _
    rw [ih, show ((n + 1 : Nat) : Int) = (n : Int) + 1 by omega, Int.add_mul, Int.one_mul]
theorem sm_swap {n m : Nat} {g : Nat → Nat → Int} : sm n (fun i => sm m fun j => g i j) = sm m fun j => sm n fun i => g i j := by
  induction n with
  | zero => exact sm_0.symm
  | succ n ih =>
    show sm n (fun i => sm m fun j => g i j) + sm m (fun j => g n j) = sm m fun j => sm n (fun i => g i j) + g n j
    rw [ih, sm_add]
/-! ### arcs and flows -/
theorem fl_at {f : List Int} {i : Nat} (h : i < f.length) : f[i]? = some (fl f i) := by
  unfold fl
  rw [List.getElem?_eq_getElem h]
  rfl
theorem fl_set {f : List Int} {k i : Nat} {v : Int} (h : k < f.length) : fl (f.set k v) i = if i = k then v else fl f i := by
  unfold fl
  rw [List.getElem?_set]
  by_cases e : k = i
  · subst e
    rw [if_pos rfl, if_pos rfl, if_pos h]
    rfl
  · rw [if_neg e, if_neg fun q => e q.symm]
def is (a b : Nat) : Int := if a = b then 1 else 0
/-- how arc i meets node z: 1 out of it, -1 into it -/
def sg (E : List Arc) (i z : Nat) : Int := is (arc E i).1 z - is (arc E i).2.1 z
def net (E : List Arc) (f : List Int) (z : Nat) : Int := sm E.length fun i => fl f i * sg E i z
section
variable {n s t : Nat} {E : List Arc} {f : List Int}
theorem net_set {k : Nat} {d : Int} (hf : f.length = E.length) (hk : k < E.length) (z : Nat) : net E (f.set k (fl f k + d)) z = net E f z + d * sg E k z := by
  unfold net
  have e : sm E.length (fun i => fl (f.set k (fl f k + d)) i * sg E i z) = sm E.length fun i => fl f i * sg E i z + if i = k then d * sg E k z else 0 := sm_ext fun i hi => by
    rw [fl_set (by omega)]
    by_cases q : i = k
    · subst q
      rw [if_pos rfl, if_pos rfl, Int.add_mul]
    · rw [if_neg q, if_neg q]
      omega
  rw [e, sm_add, sm_one, if_pos hk]
def fin (E : List Arc) (p : Nat × Int) : Nat := if p.2 = 1 then (arc E p.1).2.1 else (arc E p.1).1
theorem Stp.fin {b i x : Nat} {e : Int} (h : Stp E b i x e) : fin E (i, e) = x := by
  unfold Fg.fin
  rcases h.2 with ⟨h1, _, h3⟩ | ⟨h1, _, h3⟩
  · rw [if_pos h1]; exact h3
  · rw [if_neg (by show ¬ e = 1; omega)]; exact h3
theorem Stp.sg {b i x : Nat} {e : Int} (h : Stp E b i x e) (z : Nat) : e * sg E i z = is b z - is x z := by
  unfold Fg.sg
  rcases h.2 with ⟨h1, h2, h3⟩ | ⟨h1, h2, h3⟩
  · rw [h1, h2, h3]; omega
  · rw [h1, h2, h3]; omega
/-- a flow within the capacities, in balance -/
structure Flo (n : Nat) (E : List Arc) (s t : Nat) (f : List Int) : Prop where
  len : f.length = E.length
  lo : ∀ i, i < E.length → 0 ≤ fl f i
  hi : ∀ i, i < E.length → fl f i ≤ (arc E i).2.2
  bal : ∀ z, z < n → z ≠ s → z ≠ t → net E f z = 0
theorem flo_0 (hE : In n E) : Flo n E s t (E.map fun _ => 0) := by
  have z : ∀ i, fl (E.map fun _ => (0 : Int)) i = 0 := fun i => by
    unfold fl
    rw [List.getElem?_map]
    cases E[i]? <;> rfl
  refine ⟨by rw [List.length_map], fun i _ => by rw [z]; exact Int.le_refl _, fun i hi => by rw [z]; exact (hE.at hi).2.2, fun x _ _ _ => ?_⟩
  unfold net
  rw [sm_ext (h := fun _ => 0) fun i _ => by rw [z, Int.zero_mul]]
  exact sm_0
theorem is_le (a b : Nat) : 0 ≤ is a b ∧ is a b ≤ 1 := by
  unfold is
  split <;> omega
theorem Flo.net_le (h : Flo n E s t f) {M : Int} (hM : ∀ i, i < E.length → (arc E i).2.2 ≤ M) (M0 : 0 ≤ M) (z : Nat) : net E f z ≤ (E.length : Int) * M := by
  unfold net
  rw [← sm_const]
  refine sm_le fun i hi => ?_
  have h1 := h.lo i hi
  have h2 := h.hi i hi
  have h3 := hM i hi
  have a := is_le (arc E i).1 z
  have b := is_le (arc E i).2.1 z
  have : sg E i z ≤ 1 := by unfold sg; omega
  have m : fl f i * sg E i z ≤ fl f i * 1 := Int.mul_le_mul_of_nonneg_left this h1
  omega
/-! ### the nodes that are reached -/
def put (P : Pt) (y : Nat) (v : Nat × Int × Int) : Pt := fun z => if z = y then some v else P z
theorem bfs_0 (hs : s < n) : Bfs n E f s (put (fun _ => none) s (s, -1, 0)) [s] 0 := by
  refine ⟨by simp, fun x hx => by rw [List.mem_singleton.mp hx]; exact hs, Nat.zero_le _, fun x _ => ?_, rfl, by unfold put; rw [if_pos rfl], fun j x hj h => ?_, fun k hk => absurd hk (Nat.not_lt_zero _)⟩
  · unfold put
    by_cases h : x = s
    · rw [if_pos h, h]; simp
    · rw [if_neg h]; simp [h]
  · rw [List.getElem?_singleton, if_neg (by omega)] at h
    cases h
theorem put_old {P : Pt} {y z : Nat} {v : Nat × Int × Int} (h : (P z).isSome = true) : (put P y v z).isSome = true := by
  unfold put
  split
  · rfl
  · exact h
/-- one node more -/
theorem Bfs.add {P : Pt} {F : List Nat} {a b i y : Nat} {e : Int} {k : Nat} (h : Bfs n E f s P F a) (hb : F[k]? = some b) (hy : P y = none) (yn : y < n) (st : Stp E b i y e) (r : 0 < room E f i e) : Bfs n E f s (put P y (b, (i : Int), e)) (F ++ [y]) a := by
  have yF : y ∉ F := fun m => by
    have := (h.mem y yn).mp m
    rw [hy] at this
    cases this
  have kl : k < F.length := (List.getElem?_eq_some_iff.mp hb).1
  have old : ∀ x, x ∈ F → put P y (b, (i : Int), e) x = P x := fun x hx => by
    unfold put
    rw [if_neg fun q : x = y => yF (by rw [← q]; exact hx)]
  have get : ∀ j x, (F ++ [y])[j]? = some x → (j < F.length ∧ F[j]? = some x) ∨ (j = F.length ∧ x = y) := fun j x hj => by
    rcases Nat.lt_or_ge j F.length with q | q
    · rw [List.getElem?_append_left q] at hj
      exact .inl ⟨q, hj⟩
    · rw [List.getElem?_append_right q] at hj
      have : j - F.length < 1 := by
        have := (List.getElem?_eq_some_iff.mp hj).1
        simpa using this
      have e0 : j = F.length := by omega
      subst e0
      rw [Nat.sub_self] at hj
      cases hj
      exact .inr ⟨rfl, rfl⟩
  have sF : s ∈ F := List.mem_of_getElem? h.s0
  refine ⟨?_, fun x hx => ?_, by rw [List.length_append]; have := h.le; omega, fun x hx => ?_, ?_, by rw [old s sF]; exact h.ps, fun j x hj hx => ?_, fun j hj x hx i' y' e' st' r' => ?_⟩
  · rw [List.nodup_append]
    exact ⟨h.nd, by simp, fun x hx z hz q => yF (by rw [← List.mem_singleton.mp hz, ← q]; exact hx)⟩
  · rcases List.mem_append.mp hx with q | q
    · exact h.lt x q
    · rw [List.mem_singleton.mp q]; exact yn
  · rw [List.mem_append, List.mem_singleton]
    by_cases q : x = y
    · unfold put
      rw [if_pos q]
      exact ⟨fun _ => rfl, fun _ => .inr q⟩
    · unfold put
      rw [if_neg q, ← h.mem x hx]
      exact ⟨fun z => z.resolve_right q, .inl⟩
  · rw [List.getElem?_append_left (by omega)]
    exact h.s0
  · rcases get j x hx with ⟨q, hx⟩ | ⟨q, rfl⟩
    · obtain ⟨b', i', k', e', h1, h2, h3, h4, h5⟩ := h.back j x hj hx
      refine ⟨b', i', k', e', by rw [old x (List.mem_of_getElem? hx)]; exact h1, h2, ?_, h4, h5⟩
      rw [List.getElem?_append_left (by omega)]
      exact h3
    · refine ⟨b, i, k, e, by unfold put; rw [if_pos rfl], by omega, ?_, st, r⟩
      rw [List.getElem?_append_left kl]
      exact hb
  · rw [List.getElem?_append_left (by have := h.le; omega)] at hx
    exact put_old (h.closed j hj x hx i' y' e' st' r')
theorem Bfs.next {P : Pt} {F : List Nat} {a b : Nat} (h : Bfs n E f s P F a) (hb : F[a]? = some b) (hc : ∀ i y e, Stp E b i y e → 0 < room E f i e → (P y).isSome = true) : Bfs n E f s P F (a + 1) := by
  have hl := (List.getElem?_eq_some_iff.mp hb).1
  refine ⟨h.nd, h.lt, hl, h.mem, h.s0, h.ps, h.back, fun k hk x hx => ?_⟩
  rcases Nat.lt_or_ge k a with q | q
  · exact h.closed k q x hx
  · have : k = a := by omega
    subst this
    rw [hb] at hx
    cases hx
    exact hc
/-! ### the way back -/
inductive Bk (P : Pt) (s : Nat) : Nat → List (Nat × Int) → Prop
  | stop : P s = some (s, -1, 0) → Bk P s s []
  | step {x b i : Nat} {e : Int} {L : List (Nat × Int)} : P x = some (b, (i : Int), e) → Bk P s b L → Bk P s x ((i, e) :: L)
def tel (E : List Arc) : List (Nat × Int) → Nat → Int
  | [], _ => 0
  | p :: L, z => p.2 * sg E p.1 z + tel E L z
/-- a way -/
structure Wy (E : List Arc) (f : List Int) (s x : Nat) (L : List (Nat × Int)) : Prop where
  nd : L.Nodup
  ok : ∀ p ∈ L, p.1 < E.length ∧ (p.2 = 1 ∨ p.2 = -1) ∧ 0 < room E f p.1 p.2
  tel : ∀ z, Fg.tel E L z = is s z - is x z
theorem Bfs.way {P : Pt} {F : List Nat} {a : Nat} (h : Bfs n E f s P F a) : ∀ (k x : Nat), F[k]? = some x → ∃ L, Bk P s x L ∧ L.length ≤ k ∧ Wy E f s x L ∧ ∀ p ∈ L, ∃ j, j ≤ k ∧ F[j]? = some (Fg.fin E p) := by
  intro k
  induction k using Nat.strongRecOn with
  | _ k ih =>
    intro x hx
    rcases Nat.eq_zero_or_pos k with q | q
    · subst q
      rw [h.s0] at hx
      cases hx
      exact ⟨[], .stop h.ps, Nat.le_refl _, ⟨by simp, fun p hp => by simp at hp, fun z => by show (0 : Int) = _; omega⟩, fun p hp => by simp at hp⟩
    · obtain ⟨b, i, k', e, h1, h2, h3, h4, h5⟩ := h.back k x q hx
      obtain ⟨L, b1, b2, w, b4⟩ := ih k' h2 b h3
      refine ⟨(i, e) :: L, .step h1 b1, by rw [List.length_cons]; omega, ⟨List.nodup_cons.mpr ⟨fun m => ?_, w.nd⟩, fun p hp => ?_, fun z => ?_⟩, fun p hp => ?_⟩
      · obtain ⟨j, hj, hf⟩ := b4 _ m
        rw [h4.fin] at hf
        have hk := (List.getElem?_eq_some_iff.mp hx).1
        have := (List.getElem?_inj hk h.nd).mp (hx.trans hf.symm)
        omega
      · rcases List.mem_cons.mp hp with q | q
        · rw [q]
          refine ⟨h4.1, ?_, h5⟩
          rcases h4.2 with ⟨z, _⟩ | ⟨z, _⟩
          · exact .inl z
          · exact .inr z
        · exact w.ok p q
      · show e * sg E i z + Fg.tel E L z = _
        rw [h4.sg, w.tel]
        omega
      · rcases List.mem_cons.mp hp with q | q
        · rw [q]; exact ⟨k, Nat.le_refl _, by rw [h4.fin]; exact hx⟩
        · obtain ⟨j, hj, hf⟩ := b4 p q
          exact ⟨j, by omega, hf⟩
/-! ### more of the flow -/
def app (m : Int) (L : List (Nat × Int)) (f : List Int) : List Int := L.foldl (fun f p => f.set p.1 (fl f p.1 + p.2 * m)) f
theorem app_len (m : Int) : ∀ (L : List (Nat × Int)) (f : List Int), (app m L f).length = f.length
  | [], _ => rfl
  | p :: L, f => by
    show (app m L _).length = _
    rw [app_len m L, List.length_set]
theorem app_net (m : Int) : ∀ (L : List (Nat × Int)) (f : List Int), f.length = E.length → (∀ p ∈ L, p.1 < E.length) → ∀ z, net E (app m L f) z = net E f z + m * tel E L z
  | [], f, _, _, z => by
    show net E f z = net E f z + m * 0
    rw [Int.mul_zero, Int.add_zero]
  | p :: L, f, hf, hL, z => by
    show net E (app m L _) z = net E f z + m * (p.2 * sg E p.1 z + tel E L z)
    rw [app_net m L _ (by rw [List.length_set]; exact hf) fun q hq => hL q (List.mem_cons_of_mem _ hq), net_set hf (hL p List.mem_cons_self), Int.mul_add, ← Int.mul_assoc, Int.mul_comm m p.2]
    omega
def cnt (i : Nat) : List (Nat × Int) → Int
  | [] => 0
  | p :: L => (if i = p.1 then p.2 else 0) + cnt i L
theorem app_fl (m : Int) : ∀ (L : List (Nat × Int)) (f : List Int), (∀ p ∈ L, p.1 < f.length) → ∀ i, fl (app m L f) i = fl f i + cnt i L * m
  | [], f, _, i => by
    show fl f i = fl f i + 0 * m
    rw [Int.zero_mul, Int.add_zero]
  | p :: L, f, hL, i => by
    show fl (app m L _) i = fl f i + ((if i = p.1 then p.2 else 0) + cnt i L) * m
    rw [app_fl m L _ (fun q hq => by rw [List.length_set]; exact hL q (List.mem_cons_of_mem _ hq)), fl_set (hL p List.mem_cons_self), Int.add_mul]
    by_cases q : i = p.1
    · rw [if_pos q, if_pos q, q]
      omega
    · rw [if_neg q, if_neg q, Int.zero_mul]
      omega
theorem cnt_in (i : Nat) : ∀ (L : List (Nat × Int)), L.Nodup → (∀ p ∈ L, p.2 = 1 ∨ p.2 = -1) → cnt i L = (if (i, (1 : Int)) ∈ L then 1 else 0) - (if (i, (-1 : Int)) ∈ L then 1 else 0)
  | [], _, _ => rfl
  | (k, e) :: L, nd, h => by
    obtain ⟨h1, h2⟩ := List.nodup_cons.mp nd
    show (if i = k then e else 0) + cnt i L = _
    rw [cnt_in i L h2 fun p hp => h p (List.mem_cons_of_mem _ hp)]
    have he := h (k, e) List.mem_cons_self
    simp only at he
    by_cases q : i = k
    · subst q
      rw [if_pos rfl]
      rcases he with rfl | rfl
      · rw [if_neg h1, if_pos (show (i, (1 : Int)) ∈ (i, 1) :: L from List.mem_cons_self)]
        have : ((i, (-1 : Int)) ∈ (i, (1 : Int)) :: L) ↔ (i, (-1 : Int)) ∈ L := by simp
        simp only [this]
        omega
      · rw [if_neg h1, if_pos (show (i, (-1 : Int)) ∈ (i, -1) :: L from List.mem_cons_self)]
        have : ((i, (1 : Int)) ∈ (i, (-1 : Int)) :: L) ↔ (i, (1 : Int)) ∈ L := by simp
        simp only [this]
        omega
    · rw [if_neg q]
      have a1 : ∀ x : Int, ((i, x) ∈ (k, e) :: L) ↔ (i, x) ∈ L := fun x => by simp [q]
      simp only [a1]
      omega
theorem Flo.app (h : Flo n E s t f) {L : List (Nat × Int)} (w : Wy E f s t L) (st : s ≠ t) {m : Int} (m0 : 0 ≤ m) (hm : ∀ p ∈ L, m ≤ room E f p.1 p.2) : Flo n E s t (app m L f) ∧ net E (Fg.app m L f) s = net E f s + m := by
  have hL : ∀ p ∈ L, p.1 < E.length := fun p hp => (w.ok p hp).1
  have hn := app_net (E := E) m L f h.len hL
  have key : ∀ i, i < E.length → 0 ≤ fl (Fg.app m L f) i ∧ fl (Fg.app m L f) i ≤ (arc E i).2.2 := fun i hi => by
    rw [app_fl m L f (fun p hp => by rw [h.len]; exact hL p hp), cnt_in i L w.nd fun p hp => (w.ok p hp).2.1]
    have l := h.lo i hi
    have u := h.hi i hi
    have r1 : (i, (1 : Int)) ∈ L → m ≤ (arc E i).2.2 - fl f i := fun q => by
      have := hm _ q
      unfold room at this
      rw [if_pos rfl] at this
      exact this
    have r2 : (i, (-1 : Int)) ∈ L → m ≤ fl f i := fun q => by
      have := hm _ q
      unfold room at this
      rw [if_neg (show ¬ (-1 : Int) = 1 by decide)] at this
      exact this
    by_cases q1 : (i, (1 : Int)) ∈ L <;> by_cases q2 : (i, (-1 : Int)) ∈ L
    · rw [if_pos q1, if_pos q2]; omega
    · rw [if_pos q1, if_neg q2]; have := r1 q1; omega
    · rw [if_neg q1, if_pos q2]; have := r2 q2; omega
    · rw [if_neg q1, if_neg q2]; omega
  refine ⟨⟨by rw [app_len]; exact h.len, fun i hi => (key i hi).1, fun i hi => (key i hi).2, fun z hz zs zt => ?_⟩, ?_⟩
  · rw [hn, h.bal z hz zs zt, w.tel]
    have e1 : is s z = 0 := by unfold is; rw [if_neg fun q => zs q.symm]
    have e2 : is t z = 0 := by unfold is; rw [if_neg fun q => zt q.symm]
    rw [e1, e2]
    omega
  · rw [hn, w.tel]
    have e1 : is s s = 1 := by unfold is; rw [if_pos rfl]
    have e2 : is t s = 0 := by unfold is; rw [if_neg fun q => st q.symm]
    rw [e1, e2]
    omega
/-! ### the side -/
def across (E : List Arc) (F : List Nat) (k : Nat) : Int := sm k fun i => if (arc E i).1 ∈ F ∧ (arc E i).2.1 ∉ F then (arc E i).2.2 else 0
theorem Flo.cut (hE : In n E) (h : Flo n E s t f) {P : Pt} {F : List Nat} (b : Bfs n E f s P F F.length) (tn : t < n) (ht : P t = none) : net E f s = across E F E.length := by
  have sF : s ∈ F := List.mem_of_getElem? b.s0
  have sn := b.lt s sF
  have tF : t ∉ F := fun m => by
    have := (b.mem t tn).mp m
    rw [ht] at this
    cases this
  have e1 : net E f s = sm n fun z => if z ∈ F then net E f z else 0 := by
    have : sm n (fun z => if z ∈ F then net E f z else 0) = sm n fun z => if z = s then net E f s else 0 := sm_ext fun z hz => by
      by_cases q : z = s
      · rw [q, if_pos sF, if_pos rfl]
      · rw [if_neg q]
        by_cases m : z ∈ F
        · rw [if_pos m]
          exact h.bal z hz q fun e => tF (e ▸ m)
        · rw [if_neg m]
    rw [this, sm_one, if_pos sn]
  have e2 : (sm n fun z => if z ∈ F then net E f z else 0) = sm n fun z => sm E.length fun i => if z ∈ F then fl f i * sg E i z else 0 := sm_ext fun z _ => by
    by_cases m : z ∈ F
    · rw [if_pos m]
      unfold net
      exact sm_ext fun i _ => by rw [if_pos m]
    · rw [if_neg m, sm_ext (h := fun _ => 0) fun i _ => by rw [if_neg m], sm_0]
  rw [e1, e2, sm_swap]
  unfold across
  refine sm_ext fun i hi => ?_
  obtain ⟨un, vn, _⟩ := hE.at hi
  have e3 : (sm n fun z => if z ∈ F then fl f i * sg E i z else 0) = fl f i * ((if (arc E i).1 ∈ F then 1 else 0) - (if (arc E i).2.1 ∈ F then 1 else 0)) := by
    have : (sm n fun z => if z ∈ F then fl f i * sg E i z else 0) = sm n fun z => (if z = (arc E i).1 then fl f i * (if (arc E i).1 ∈ F then 1 else 0) else 0) + (if z = (arc E i).2.1 then fl f i * -(if (arc E i).2.1 ∈ F then 1 else 0) else 0) := sm_ext fun z _ => by
      unfold sg is
      by_cases m : z ∈ F
      · rw [if_pos m]
        by_cases a1 : z = (arc E i).1 <;> by_cases a2 : z = (arc E i).2.1
        · rw [if_pos a1, if_pos a2, if_pos a1.symm, if_pos a2.symm, if_pos (a1 ▸ m), if_pos (a2 ▸ m)]; omega
        · rw [if_pos a1, if_neg a2, if_pos a1.symm, if_neg fun q => a2 q.symm, if_pos (a1 ▸ m)]; omega
        · rw [if_neg a1, if_pos a2, if_neg (fun q => a1 q.symm), if_pos a2.symm, if_pos (a2 ▸ m)]; omega
        · rw [if_neg a1, if_neg a2, if_neg (fun q => a1 q.symm), if_neg fun q => a2 q.symm]; omega
      · rw [if_neg m]
        by_cases a1 : z = (arc E i).1 <;> by_cases a2 : z = (arc E i).2.1
        · rw [if_pos a1, if_pos a2, if_neg (a1 ▸ m), if_neg (a2 ▸ m)]; omega
        · rw [if_pos a1, if_neg a2, if_neg (a1 ▸ m)]; omega
        · rw [if_neg a1, if_pos a2, if_neg (a2 ▸ m)]; omega
        · rw [if_neg a1, if_neg a2]; omega
    rw [this, sm_add, sm_one, sm_one, if_pos un, if_pos vn, ← Int.mul_add]
    rfl
  rw [e3]
  have reach : ∀ (x y : Nat) (e : Int), Stp E x i y e → x ∈ F → y < n → y ∉ F → room E f i e ≤ 0 := fun x y e st hx yn hy => by
    refine Classical.byContradiction fun hc => hy ((b.mem y yn).mpr ?_)
    obtain ⟨k, hk⟩ := List.getElem?_of_mem hx
    exact b.closed k (List.getElem?_eq_some_iff.mp hk).1 x hk i y e st (by omega)
  have lo := h.lo i hi
  have up := h.hi i hi
  by_cases a1 : (arc E i).1 ∈ F <;> by_cases a2 : (arc E i).2.1 ∈ F
  · rw [if_pos a1, if_pos a2, if_neg fun q => q.2 a2]; omega
  · have := reach _ _ 1 ⟨hi, .inl ⟨rfl, rfl, rfl⟩⟩ a1 vn a2
    unfold room at this
    rw [if_pos rfl] at this
    rw [if_pos a1, if_neg a2, if_pos ⟨a1, a2⟩]
    omega
  · have := reach _ _ (-1) ⟨hi, .inr ⟨rfl, rfl, rfl⟩⟩ a2 un a1
    unfold room at this
    rw [if_neg (by decide)] at this
    rw [if_neg a1, if_pos a2, if_neg fun q => a1 q.1]
    have : fl f i = 0 := by omega
    rw [this]
    omega
  · rw [if_neg a1, if_neg a2, if_neg fun q => a1 q.1]; omega
end
end Fg
namespace Lw.Fo
open PySem PySem.Spec PyProof.Rows L2 FL VL Fg
def arD (a : Arc) : D := .tup [.int (a.1 : Int), .int (a.2.1 : Int), .int a.2.2]
def arsD (c : Bool) (E : List Arc) : D := sq c (E.map arD)
abbrev Sp := Nat × Nat × Int
def spD (p : Sp) : D := .tup [.int (p.1 : Int), .int (p.2.1 : Int), .int p.2.2]
def rO (l : List Sp) : O := .l (l.map fun p => .d (spD p))
def rD (l : List Sp) : D := .lst (l.map spD)
def rsO (n : Nat) (f : Nat → List Sp) : O := .l ((List.range n).map fun i => rO (f i))
def rsD (n : Nat) (f : Nat → List Sp) : D := .lst ((List.range n).map fun i => rD (f i))
theorem flat_ar {a : Arc} : flat (arD a) = true := by simp [arD]
theorem flat_sp {p : Sp} : flat (spD p) = true := by simp [spD]
theorem frz_r' {l : List Sp} : frz (rO l) = rD l := by unfold rO rD; rw [frz_l, frzL_md]
theorem frz_rs {n : Nat} {f : Nat → List Sp} : frz (rsO n f) = rsD n f := by
  unfold rsO rsD
  rw [frz_l, frzL_map]
  congr 1
  exact List.map_congr_left fun i _ => frz_r'
theorem viewD_rs {n : Nat} {f : Nat → List Sp} {ω : Om} : viewD (some (rsO n f) :: ω) = none :: viewD ω := rfl
theorem ars_seq {c : Bool} {E : List Arc} : kSeq [arsD c E] = some (E.map fun a => .one (arD a)) := by unfold arsD; rw [sq_seq, List.map_map]; rfl
theorem ars_len {c : Bool} {E : List Arc} : gLenA [arsD c E] = some (.d (.int (E.length : Int))) := by unfold arsD; simp
theorem ars_ix {c : Bool} {E : List Arc} {k : Nat} (h : k < E.length) : gIx (arsD c E) (.int (k : Int)) = some (O.d (arD (arc E k))) := by
  unfold arsD
  rw [sq_ix, atI_nat (by rw [List.getElem?_map, arc_at h]; rfl)]
  rfl
theorem r_seq' {l : List Sp} : kSeq [rD l] = some (l.map fun p => .one (spD p)) := by
  unfold rD
  exact kSeq_m
theorem rs_ix {n : Nat} {f : Nat → List Sp} {x : Int} {i : Nat} (hx : x = (i : Int)) (hi : i < n) : gIx (rsD n f) (.int x) = some (O.d (rD (f i))) := by
  subst hx
  unfold rsD
  show (atI _ _).map O.d = _
  rw [atI_nat (rng_get (e := fun i => rD (f i)) hi)]
  rfl
/-- the steps of one arc from a node -/
def sti (a : Arc) (i x : Nat) : List Sp := (if a.1 = x then [(i, a.2.1, 1)] else []) ++ (if a.2.1 = x then [(i, a.1, -1)] else [])
def sts (E : List Arc) (m x : Nat) : List Sp := (List.range m).flatMap fun i => sti (arc E i) i x
theorem sts_next {E : List Arc} {m x : Nat} : sts E (m + 1) x = sts E m x ++ sti (arc E m) m x := by
  unfold sts
  rw [List.range_succ, List.flatMap_append]
  simp
theorem sti_len (a : Arc) (i x : Nat) : (sti a i x).length ≤ 2 := by
  unfold sti
  split <;> split <;> simp
theorem sts_len (E : List Arc) (m x : Nat) : (sts E m x).length ≤ 2 * m := by
  induction m with
  | zero => simp [sts]
  | succ m ih =>
    rw [sts_next, List.length_append]
    have := sti_len (arc E m) m x
    omega
theorem mem_sts {E : List Arc} {x i y : Nat} {e : Int} : (i, y, e) ∈ sts E E.length x ↔ Stp E x i y e := by
  unfold sts Stp
  rw [List.mem_flatMap]
  constructor
  · rintro ⟨j, hj, h⟩
    have hj := List.mem_range.mp hj
    unfold sti at h
    rcases List.mem_append.mp h with h | h
    · split at h
      · rename_i q
        have h := List.mem_singleton.mp h
        injection h with h1 h
        injection h with h2 h3
        subst h1 h2 h3
        exact ⟨hj, .inl ⟨rfl, q, rfl⟩⟩
      · simp at h
    · split at h
      · rename_i q
        have h := List.mem_singleton.mp h
        injection h with h1 h
        injection h with h2 h3
        subst h1 h2 h3
        exact ⟨hj, .inr ⟨rfl, q, rfl⟩⟩
      · simp at h
  · rintro ⟨hi, h | h⟩
    · obtain ⟨h1, h2, h3⟩ := h
      refine ⟨i, List.mem_range.mpr hi, ?_⟩
      unfold sti
      rw [if_pos h2, h1, h3]
      simp
    · obtain ⟨h1, h2, h3⟩ := h
      refine ⟨i, List.mem_range.mpr hi, ?_⟩
      unfold sti
      rw [if_pos h2, h1, h3]
      simp
theorem rng_n (n : Nat) : rangeL 0 (n : Int) = (List.range n).map fun i => ((i : Nat) : Int) := by
  unfold rangeL
  rw [show ((n : Int) - 0).toNat = n by omega]
  exact List.map_congr_left fun i _ => by simp
theorem rs_ext {n : Nat} {f g : Nat → List Sp} (h : ∀ i, i < n → f i = g i) : rsO n f = rsO n g := by
  unfold rsO
  congr 1
  exact rng_ext fun i hi => by rw [h i hi]
/-- rows[a].append(d) -/
theorem w_app2 {fi fe : PEF} {ω : Om} {nx ct bk : Om → Prop} {rt : O → Om → Prop} {i ka : Nat} {os os2 : List O} {d : D} (h1 : fi (viewA ω) = .ok (.int (ka : Int))) (h3 : ω[i]? = some (some (.l os))) (h5 : os[ka]? = some (.l os2)) (hl : os2.length < 100000) (e : fe (viewA ω) = .ok d) (hd : flat d = true) (k : nx (ω.set i (some (.l (os.set ka (.l (os2 ++ [.d d]))))))) : W (cAppP (pIx (pV i) fi) fe ω) nx ct bk rt := by
  have kl : ka < os.length := (List.getElem?_eq_some_iff.mp h5).1
  have e1 : pIx (pV i) fi ω = some (i, [ka]) := by
    unfold pIx
    simp only [pV_ap, h3, pvR_s, h1, subO_ap, subR_s, getP_n, ixN_nn (show (0 : Int) ≤ (ka : Int) by omega) (show (ka : Int) < (os.length : Nat) by omega)]
    rfl
  have e3 : subO ω (i, [ka]) = some (.l os2) := by
    rw [subO_ap, h3, subR_s, getP_c, h5]
    exact getP_n
  have e4 : putO ω (i, [ka]) (.l (os2 ++ [.d d])) = ω.set i (some (.l (os.set ka (.l (os2 ++ [.d d]))))) := by
    unfold putO
    simp only [h3]
    rw [setP_c h5, setP_n]
  have e5 : cAppP (pIx (pV i) fi) fe ω = .ok (.nx, ω.set i (some (.l (os.set ka (.l (os2 ++ [.d d])))))) := by
    unfold cAppP
    rw [e1, e]
    simp only [e3]
    rw [if_pos ⟨lt_size hl, hd⟩, e4]
  exact w_of e5 k
theorem steps_from_ok {c : Bool} {n : Nat} {E : List Arc} (hE : Fg.In n E) (hn : n ≤ 100) (hl : E.length ≤ 1000) : v_steps_from [.int (n : Int), arsD c E] = .ok (rsO n (sts E E.length)) := by
  unfold v_steps_from
  refine w_isP ?_
  show W (cSeq _ _ [some (.d (.int ((n : Int)))), some (.d (arsD c E)), none, none, none]) _ _ _ _
  have kr := kRange1_m (j := (n : Int)) (inR_s (by omega) (by omega))
  have krE := kRange1_m (j := (E.length : Int)) (inR_s (by omega) (by omega))
  have ln := ars_len (c := c) (E := E)
  have ix := fun (k : Nat) (h : k < E.length) => ars_ix (c := c) h
  generalize hae : arsD c E = ae at *
  have hc := cComp_all (σ := [some (.int (n : Int)), some (ae), none, none, none]) (g := VL.hN 3) (fi := iP kRange1 (VL.aCons (VL.cV 0) VL.aNil)) (f := VL.cLst VL.oNil) (vs := [3]) (xs := rangeL 0 (n : Int)) (fun i => .one (.int i)) (fun i => rO []) (by simp [kr]) (by rw [rangeL_len]; omega) fun i hi => ⟨_, rfl, by simp [rO]⟩
  rw [rng_n, List.map_map] at hc
  have e0 : rsO n (fun _ => []) = rsO n (sts E 0) := rfl
  refine t_set (o := rsO n (fun _ => [])) (ω1 := [some (.d (.int ((n : Int)))), some (.d (ae)), none, none, none]) (ω2 := [some (.d (.int ((n : Int)))), some (.d (ae)), some (rsO n (sts E 0)), none, none]) (by
    rw [loD_ap]
    exact (congrArg (fun z => liDR z [some (.d (.int ((n : Int)))), some (.d (ae)), none, none, none]) hc).trans rfl) (by rw [e0]; rfl) ?_
  refine w_seq (w_for (fun i : Int => .one (.int i)) (rangeL 0 (E.length : Int)) (fun done ω => ω = [some (.d (.int ((n : Int)))), some (.d (ae)), some (rsO n (sts E done.length)), none, none]) (ω0 := [some (.d (.int ((n : Int)))), some (.d (ae)), some (rsO n (sts E 0)), none, none]) (by simp [iX, viewD_x, viewD_rs, ln, krE]) rfl ?_ ?_)
  · rintro done z rest ω er rfl
    obtain ⟨hz, hlt⟩ := rangeL_split er
    have hl2 : (done ++ [z]).length = done.length + 1 := by simp
    rw [hl2]
    generalize done.length = m at *
    have hz : z = (m : Int) := by omega
    subst hz
    have mE : m < E.length := by omega
    obtain ⟨hx, hy, _⟩ := hE.at mE
    have i0 := ix m mE
    have a0 : gIx (arD (arc E m)) (.int 0) = some (.d (.int ((arc E m).1 : Int))) := rfl
    have a1 : gIx (arD (arc E m)) (.int 1) = some (.d (.int ((arc E m).2.1 : Int))) := rfl
    have st : ∀ i, sts E (m + 1) i = sts E m i ++ sti (arc E m) m i := fun i => sts_next
    have sl := sts_len E m
    refine ⟨[some (.d (.int ((n : Int)))), some (.d (ae)), some (rsO n (sts E m)), none, some (.d (.int ((m : Int))))], rfl, ?_⟩
    generalize arD (arc E m) = xd at *
    generalize arc E m = a at *
    obtain ⟨x, y, d⟩ := a
    simp only at hx hy a0 a1
    generalize sts E m = f at *
    generalize sts E (m + 1) = g at *
    have fz := fun h : Nat → List Sp => frz_rs (n := n) (f := h)
    have sets : ∀ (f : Nat → List Sp) (a : Nat) (p : Sp), a < n → O.l (((List.range n).map fun i => rO (f i)).set a (.l ((f a).map (fun p => .d (spD p)) ++ [.d (spD p)]))) = rsO n fun i => if i = a then f a ++ [p] else f i := fun f a p ha => by
      refine congrArg O.l (rng_set ha fun q hq => ?_)
      by_cases e : q = a
      · show rO (if q = a then _ else _) = _
        rw [if_pos e, if_pos e]
        unfold rO
        rw [List.map_append]
        rfl
      · show rO (if q = a then _ else _) = _
        rw [if_neg e, if_neg e]
    refine w_cut (fun ω => ω = [some (.d (.int ((n : Int)))), some (.d (ae)), some (rsO n (fun i => if i = x then f x ++ [(m, y, 1)] else f i)), none, some (.d (.int ((m : Int))))]) ?_ ?_
    · refine w_app2 (ka := x) (os := (List.range n).map fun i => rO (f i)) (os2 := (f x).map fun p => .d (spD p)) (d := spD (m, y, 1)) ?_ rfl (rng_get hx) (by have := sl x; rw [List.length_map]; omega) ?_ flat_sp ?_
      · show VL.cBin gIx (VL.cBin gIx (VL.cV 1) (VL.cV 4)) (VL.cK (.int 0)) (viewA [some (.d (.int ((n : Int)))), some (.d (ae)), some (rsO n f), none, some (.d (.int ((m : Int))))]) = _
        generalize rsO n f = ro at *
        simp [i0, a0]
      · show VL.cTup _ (viewA [some (.d (.int ((n : Int)))), some (.d (ae)), some (rsO n f), none, some (.d (.int ((m : Int))))]) = _
        generalize rsO n f = ro at *
        simp [i0, a1, spD]
      · rw [sets f x (m, y, 1) hx]
        rfl
    · rintro ω rfl
      refine w_app2 (ka := y) (os := (List.range n).map fun i => rO (if i = x then f x ++ [(m, y, 1)] else f i)) (os2 := (if y = x then f x ++ [(m, y, 1)] else f y).map fun p => .d (spD p)) (d := spD (m, x, -1)) ?_ rfl (rng_get (e := fun i => rO (if i = x then f x ++ [(m, y, 1)] else f i)) hy) ?_ ?_ flat_sp ?_
      · show VL.cBin gIx (VL.cBin gIx (VL.cV 1) (VL.cV 4)) (VL.cK (.int 1)) (viewA [some (.d (.int ((n : Int)))), some (.d (ae)), some (rsO n (fun i => if i = x then f x ++ [(m, y, 1)] else f i)), none, some (.d (.int ((m : Int))))]) = _
        generalize rsO n (fun i => if i = x then f x ++ [(m, y, 1)] else f i) = ro at *
        simp [i0, a1]
      · have h1 := sl x
        have h2 := sl y
        rw [List.length_map]
        split
        · rw [List.length_append]
          show _ + 1 < _
          omega
        · omega
      · show VL.cTup _ (viewA [some (.d (.int ((n : Int)))), some (.d (ae)), some (rsO n (fun i => if i = x then f x ++ [(m, y, 1)] else f i)), none, some (.d (.int ((m : Int))))]) = _
        generalize rsO n (fun i => if i = x then f x ++ [(m, y, 1)] else f i) = ro at *
        simp [i0, a0, spD]
      · rw [sets (fun i => if i = x then f x ++ [(m, y, 1)] else f i) y (m, x, -1) hy]
        have : rsO n (fun i => if i = y then (if y = x then f x ++ [(m, y, 1)] else f y) ++ [(m, x, -1)] else if i = x then f x ++ [(m, y, 1)] else f i) = rsO n g := rs_ext fun i hi => by
          rw [st]
          unfold sti
          show _ = f i ++ ((if x = i then [(m, y, 1)] else []) ++ if y = i then [(m, x, -1)] else [])
          by_cases e1 : i = x
          · subst e1
            by_cases e2 : i = y
            · subst e2
              rw [if_pos rfl, if_pos rfl, if_pos rfl, if_pos rfl, List.append_assoc]
            · rw [if_neg e2, if_pos rfl, if_pos rfl, if_neg (fun h => e2 h.symm), List.append_nil]
          · by_cases e2 : i = y
            · subst e2
              rw [if_pos rfl, if_neg e1, if_neg (fun h => e1 h.symm), if_pos rfl, List.nil_append]
            · rw [if_neg e2, if_neg e1, if_neg (fun h => e1 h.symm), if_neg (fun h => e2 h.symm), List.nil_append, List.append_nil]
        rw [← this]
        rfl
  · rintro ω rfl
    rw [rangeL_len, show ((E.length : Int) - 0).toNat = E.length by omega]
    exact t_ret (o := rsO n (sts E E.length)) (ω1 := [some (.d (.int ((n : Int)))), some (.d (ae)), none, none, none]) rfl rfl
/-! ### flows as data -/
def flD (f : List Int) : D := .lst (f.map .int)
def flO (f : List Int) : O := .l (f.map fun i => .d (.int i))
theorem frz_f {f : List Int} : frz (flO f) = flD f := by unfold flO flD; rw [frz_l, frzL_md]
theorem viewD_f {f : List Int} {ω : Om} : viewD (some (flO f) :: ω) = none :: viewD ω := rfl
theorem f_ix {f : List Int} {k : Nat} (h : k < f.length) : gIx (flD f) (.int (k : Int)) = some (O.d (.int (fl f k))) := by
  unfold flD
  show (atI _ _).map O.d = _
  rw [atI_nat (by rw [List.getElem?_map, fl_at h]; rfl)]
  rfl
theorem room_left_ok {c : Bool} {E : List Arc} {f : List Int} {i : Nat} {e : Int} (hi : i < E.length) (hf : f.length = E.length) : v_room_left [arsD c E, flD f, .int (i : Int), .int e] = .ok (.d (.int (room E f i e))) := by
  have i0 := ars_ix (c := c) hi
  have i1 := f_ix (f := f) (k := i) (by omega)
  have a2 : gIx (arD (arc E i)) (.int 2) = some (.d (.int (arc E i).2.2)) := rfl
  unfold room
  generalize arD (arc E i) = xd at *
  generalize arsD c E = ad at *
  generalize flD f = fd at *
  unfold v_room_left
  refine w_isP ?_
  show W (cSeq _ _ [some (.d (ad)), some (.d (fd)), some (.d (.int ((i : Int)))), some (.d (.int (e)))]) _ _ _ _
  by_cases h : e = 1
  · rw [if_pos h]
    exact t_ifT (ω1 := [some (.d (ad)), some (.d (fd)), some (.d (.int ((i : Int)))), some (.d (.int (e)))]) (by simp [h]) (t_retS (o := .d (.int ((arc E i).2.2 - fl f i))) (ω1 := [some (.d (ad)), some (.d (fd)), some (.d (.int ((i : Int)))), some (.d (.int (e)))]) (by simp [i0, i1, a2]) rfl)
  · rw [if_neg h]
    refine t_ifF (ω1 := [some (.d (ad)), some (.d (fd)), some (.d (.int ((i : Int)))), some (.d (.int (e)))]) (by simp [h]) (t_nx ?_)
    exact t_ret (o := .d (.int (fl f i))) (ω1 := [some (.d (ad)), some (.d (fd)), some (.d (.int ((i : Int)))), some (.d (.int (e)))]) (by simp [i1]) rfl
end Lw.Fo
namespace Lw.Fo
open PySem PySem.Spec PyProof.Rows L2 FL VL Fg
def ptD (P : Pt) (j : Nat) : D := match P j with
  | none => .non
  | some (b, i, e) => .tup [.int (b : Int), .int i, .int e]
theorem pt_is {P : Pt} {j : Nat} : gIs (ptD P j) .non = some (.d (.bl (P j).isNone)) := by
  unfold ptD
  cases h : P j with
  | none => rfl
  | some v => obtain ⟨b, i, e⟩ := v; rfl
theorem pt_isn {P : Pt} {j : Nat} : gIsN (ptD P j) .non = some (.d (.bl (P j).isSome)) := by
  unfold ptD
  cases h : P j with
  | none => rfl
  | some v => obtain ⟨b, i, e⟩ := v; rfl
theorem pt_put {n : Nat} {P : Pt} {y b : Nat} {i e : Int} (hy : y < n) : O.l (((List.range n).map fun j => O.d (ptD P j)).set y (.d (.tup [.int (b : Int), .int i, .int e]))) = fO n (ptD (put P y (b, i, e))) := by
  refine congrArg O.l (rng_set hy fun c hc => ?_)
  show O.d (ptD (put P y (b, i, e)) c) = _
  unfold ptD put
  by_cases q : c = y
  · rw [if_pos q, if_pos q]
  · rw [if_neg q, if_neg q]
def nO (F : List Nat) : O := .l (F.map fun k : Nat => .d (.int (k : Int)))
def nD (F : List Nat) : D := .lst (F.map fun k : Nat => .int (k : Int))
theorem frz_n {F : List Nat} : frz (nO F) = nD F := by unfold nO nD; rw [frz_l, frzL_md]
theorem viewD_n {f : List Nat} {ω : Om} : viewD (some (nO f) :: ω) = none :: viewD ω := rfl
theorem n_len {F : List Nat} : gLenA [nD F] = some (.d (.int (F.length : Int))) := by
  show some (O.d (.int ((F.map fun k : Nat => D.int (k : Int)).length : Int))) = _
  rw [List.length_map]
theorem n_ix {F : List Nat} {i x : Nat} (h : F[i]? = some x) : gIx (nD F) (.int (i : Int)) = some (O.d (.int (x : Int))) := by
  unfold nD
  show (atI _ _).map O.d = _
  rw [atI_nat (by rw [List.getElem?_map, h]; rfl)]
  rfl
theorem nO_app {F : List Nat} {g : Nat} : nO (F ++ [g]) = .l ((F.map fun k : Nat => .d (.int (k : Int))) ++ [.d (.int (g : Int))]) := by unfold nO; rw [List.map_append]; rfl
theorem iSX_ev {fe : EV} {ω : Om} {d : D} {items : List ItD} (e : fe ω = .ok (d, ω)) (k : kSeq [d] = some items) : iSX fe ω = .ok (items, ω) := by
  simp [iSX, e, k]
theorem rs_len {n : Nat} {f : Nat → List Sp} : gLenA [rsD n f] = some (.d (.int (n : Int))) := by
  show some (O.d (.int (((List.range n).map fun i => rD (f i)).length : Int))) = _
  rw [List.length_map, List.length_range]
theorem reached_from_ok {c : Bool} {n s : Nat} {E : List Arc} {f : List Int} (hE : Fg.In n E) (hn : n ≤ 100) (hl : E.length ≤ 1000) (hf : f.length = E.length) (hs : s < n) : ∃ o, v_reached_from [arsD c E, flD f, rsD n (sts E E.length), .int (s : Int)] = .ok o ∧ ∃ P F, o = fO n (ptD P) ∧ Bfs n E f s P F F.length := by
  have rm := fun (i : Nat) (e : Int) (h : i < E.length) => room_left_ok (c := c) (e := e) h hf
  have sl := rs_len (n := n) (f := sts E E.length)
  have six := fun (x : Nat) (h : x < n) => rs_ix (n := n) (f := sts E E.length) (x := (x : Int)) rfl h
  have kr := kRange1_m (j := (n : Int)) (inR_s (by omega) (by omega))
  unfold v_reached_from
  refine w_fnP ?_
  generalize arsD c E = ad at *
  generalize flD f = fd at *
  generalize rsD n (sts E E.length) = sd at *
  show W (cSeq _ _ [some (.d (ad)), some (.d (fd)), some (.d (sd)), some (.d (.int ((s : Int)))), none, none, none, none, none, none, none]) _ _ _ _
  have hc := cComp_all (σ := viewD [some (.d (ad)), some (.d (fd)), some (.d (sd)), some (.d (.int ((s : Int)))), none, none, none, none, none, none, none]) (g := VL.hN 5) (fi := iP kRange1 (VL.aCons (VL.cCB gLenA (VL.aCons (VL.cV 2) VL.aNil)) VL.aNil)) (f := oD (VL.cK .non)) (vs := [5]) (xs := rangeL 0 (n : Int)) (fun i => .one (.int i)) (fun i => .d .non) (by simp [viewD_x, sl, kr]) (by rw [rangeL_len]; omega) fun i hi => ⟨_, rfl, rfl⟩
  rw [rng_n, List.map_map] at hc
  refine t_set (o := fO n (ptD fun _ => none)) (ω1 := [some (.d (ad)), some (.d (fd)), some (.d (sd)), some (.d (.int ((s : Int)))), none, none, none, none, none, none, none]) (ω2 := [some (.d (ad)), some (.d (fd)), some (.d (sd)), some (.d (.int ((s : Int)))), some (fO n (ptD fun _ => none)), none, none, none, none, none, none]) (by
    rw [loD_ap]
    exact (congrArg (fun z => liDR z [some (.d (ad)), some (.d (fd)), some (.d (sd)), some (.d (.int ((s : Int)))), none, none, none, none, none, none, none]) hc).trans rfl) (by simp only [List.set_cons_zero, List.set_cons_succ] <;> rfl) ?_
  refine w_cut (fun ω => ω = [some (.d (ad)), some (.d (fd)), some (.d (sd)), some (.d (.int ((s : Int)))), some (fO n (ptD (put (fun _ => none) s (s, -1, 0)))), none, none, none, none, none, none]) ?_ ?_
  · refine w_subV (.ok (ω := [some (.d (ad)), some (.d (fd)), some (.d (sd)), some (.d (.int ((s : Int)))), some (fO n (ptD fun _ => none)), none, none, none, none, none, none]) (a := .d (.tup [.int (s : Int), .int (-1), .int 0])) ?_ ⟨s, (List.range n).map fun j => .d (ptD (fun _ => none) j), ?_, rfl, by rw [List.length_map, List.length_range]; exact hs, ?_⟩)
    · simp [viewD_x, viewD_fO]
    · simp
    · rw [pt_put hs]
      rfl
  rintro ω rfl
  refine t_set (o := nO [s]) (ω1 := [some (.d (ad)), some (.d (fd)), some (.d (sd)), some (.d (.int ((s : Int)))), some (fO n (ptD (put (fun _ => none) s (s, -1, 0)))), none, none, none, none, none, none]) (ω2 := [some (.d (ad)), some (.d (fd)), some (.d (sd)), some (.d (.int ((s : Int)))), some (fO n (ptD (put (fun _ => none) s (s, -1, 0)))), none, some (nO [s]), none, none, none, none]) (by simp [viewD_x, viewD_fO, nO]) (by simp only [List.set_cons_zero, List.set_cons_succ] <;> rfl) ?_
  refine t_set (o := .d (.int 0)) (ω1 := [some (.d (ad)), some (.d (fd)), some (.d (sd)), some (.d (.int ((s : Int)))), some (fO n (ptD (put (fun _ => none) s (s, -1, 0)))), none, some (nO [s]), none, none, none, none]) (ω2 := [some (.d (ad)), some (.d (fd)), some (.d (sd)), some (.d (.int ((s : Int)))), some (fO n (ptD (put (fun _ => none) s (s, -1, 0)))), none, some (nO ([s])), some (.d (.int (((0 : Nat) : Int)))), none, none, none]) (by simp [viewD_x, viewD_fO, viewD_n]) (by simp only [List.set_cons_zero, List.set_cons_succ] <;> rfl) ?_
  refine w_seq (w_while (fun m ω => ∃ (P : Pt) (F : List Nat) (a : Nat), ω = [some (.d (ad)), some (.d (fd)), some (.d (sd)), some (.d (.int ((s : Int)))), some (fO n (ptD (P))), none, some (nO (F)), some (.d (.int (((a : Nat) : Int)))), none, none, none] ∧ Bfs n E f s P F a ∧ m = n - a) n (by omega) ⟨_, _, _, rfl, bfs_0 hs, rfl⟩ ?_)
  rintro m ω ⟨P, F, a, rfl, h, rfl⟩
  have fz := frz_n (F := F)
  have fln := h.len
  have fz2 := frz_fO (n := n) (f := ptD P)
  have nl := n_len (F := F)
  by_cases hz : a < F.length
  · have hx : F[a]? = some F[a] := List.getElem?_eq_getElem hz
    generalize F[a] = x at hx
    have xn := h.lt x (List.mem_of_getElem? hx)
    have nx := n_ix hx
    refine x_lbA (b := true) (by
      generalize nO F = qo at *
      generalize nD F = qd at *
      generalize fO n (ptD P) = po at *
      simp [fz, nl, hz]) ⟨(fun h => nomatch h), fun _ => ?_⟩
    refine t_set (o := .d (.int (x : Int))) (ω1 := [some (.d (ad)), some (.d (fd)), some (.d (sd)), some (.d (.int ((s : Int)))), some (fO n (ptD (P))), none, some (nO (F)), some (.d (.int (((a : Nat) : Int)))), none, none, none]) (ω2 := [some (.d (ad)), some (.d (fd)), some (.d (sd)), some (.d (.int ((s : Int)))), some (fO n (ptD (P))), some (.d (.int ((x : Int)))), some (nO (F)), some (.d (.int (((a : Nat) : Int)))), none, none, none]) (by
      generalize nO F = qo at *
      generalize nD F = qd at *
      generalize fO n (ptD P) = po at *
      simp [fz, nx]) (by simp only [List.set_cons_zero, List.set_cons_succ] <;> rfl) ?_
    refine t_aug (x := .int (a : Int)) (y := .int 1) (d := .int ((a + 1 : Nat) : Int)) (ω1 := [some (.d (ad)), some (.d (fd)), some (.d (sd)), some (.d (.int ((s : Int)))), some (fO n (ptD (P))), some (.d (.int ((x : Int)))), some (nO (F)), some (.d (.int (((a : Nat) : Int)))), none, none, none]) (ω2 := [some (.d (ad)), some (.d (fd)), some (.d (sd)), some (.d (.int ((s : Int)))), some (fO n (ptD (P))), some (.d (.int ((x : Int)))), some (nO (F)), some (.d (.int (((a + 1 : Nat) : Int)))), none, none, none]) rfl (by simp [viewD_x, viewD_n, viewD_fO]) (by rfl) rfl ?_
    have sx := six x xn
    refine w_for (fun p : Sp => .one (spD p)) (sts E E.length x) (fun done ω => ∃ (P : Pt) (F : List Nat), ω = [some (.d (ad)), some (.d (fd)), some (.d (sd)), some (.d (.int ((s : Int)))), some (fO n (ptD (P))), some (.d (.int ((x : Int)))), some (nO (F)), some (.d (.int (((a + 1 : Nat) : Int)))), none, none, none] ∧ Bfs n E f s P F a ∧ F[a]? = some x ∧ ∀ p ∈ done, 0 < room E f p.1 p.2.2 → (P p.2.1).isSome = true) (ω0 := [some (.d (ad)), some (.d (fd)), some (.d (sd)), some (.d (.int ((s : Int)))), some (fO n (ptD (P))), some (.d (.int ((x : Int)))), some (nO (F)), some (.d (.int (((a + 1 : Nat) : Int)))), none, none, none]) (iSX_ev (d := rD (sts E E.length x)) (by simp [viewD_x, viewD_n, viewD_fO, sx]) r_seq') ⟨P, F, rfl, h, hx, fun p hp => by simp at hp⟩ ?_ ?_
    · rintro done ⟨i, y, e⟩ rest ω er ⟨P, F, rfl, h, hx, hd⟩
      have st : Stp E x i y e := mem_sts.mp (by rw [er]; simp)
      have yn := st.lt hE
      have rm := rm i e st.1
      have fz2 := frz_fO (n := n) (f := ptD P)
      have i1 := fD_ix (n := n) (f := ptD P) (x := (y : Int)) rfl yn
      have i2 := pt_is (P := P) (j := y)
      refine ⟨[some (.d (ad)), some (.d (fd)), some (.d (sd)), some (.d (.int ((s : Int)))), some (fO n (ptD (P))), some (.d (.int ((x : Int)))), some (nO (F)), some (.d (.int (((a + 1 : Nat) : Int)))), some (.d (.int ((i : Int)))), some (.d (.int ((y : Int)))), some (.d (.int (e)))], by simp [spD], ?_⟩
      refine t_if1 (b := (P y).isNone && decide (0 < room E f i e)) (ω1 := [some (.d (ad)), some (.d (fd)), some (.d (sd)), some (.d (.int ((s : Int)))), some (fO n (ptD (P))), some (.d (.int ((x : Int)))), some (nO (F)), some (.d (.int (((a + 1 : Nat) : Int)))), some (.d (.int ((i : Int)))), some (.d (.int ((y : Int)))), some (.d (.int (e)))]) ?_ (fun hb => ?_) fun hb => w_nx ⟨P, F, rfl, h, hx, fun p hp => ?_⟩
      · generalize nO F = qo at *
        generalize ptD P y = py at *
        generalize fO n (ptD P) = po at *
        generalize fD n (ptD P) = pd at *
        generalize room E f i e = r at *
        generalize (P y).isNone = b1 at *
        cases b1 <;> simp [fz2, i1, i2, rm]
      · obtain ⟨b1, b2⟩ := Bool.and_eq_true_iff.mp hb
        have hy : P y = none := Option.isNone_iff_eq_none.mp b1
        have hr := of_decide_eq_true b2
        have fl2 := h.len
        refine w_cut (fun ω => ω = [some (.d (ad)), some (.d (fd)), some (.d (sd)), some (.d (.int ((s : Int)))), some (fO n (ptD (put P y (x, (i : Int), e)))), some (.d (.int ((x : Int)))), some (nO (F)), some (.d (.int (((a + 1 : Nat) : Int)))), some (.d (.int ((i : Int)))), some (.d (.int ((y : Int)))), some (.d (.int (e)))]) ?_ ?_
        · refine w_subV (.ok (ω := [some (.d (ad)), some (.d (fd)), some (.d (sd)), some (.d (.int ((s : Int)))), some (fO n (ptD (P))), some (.d (.int ((x : Int)))), some (nO (F)), some (.d (.int (((a + 1 : Nat) : Int)))), some (.d (.int ((i : Int)))), some (.d (.int ((y : Int)))), some (.d (.int (e)))]) (a := .d (.tup [.int (x : Int), .int (i : Int), .int e])) ?_ ⟨y, (List.range n).map fun j => .d (ptD P j), ?_, rfl, by rw [List.length_map, List.length_range]; exact yn, ?_⟩)
          · simp [viewD_x, viewD_fO, viewD_n]
          · generalize nO F = qo at *
            generalize fO n (ptD P) = po at *
            simp
          · rw [pt_put yn]
            rfl
        · rintro ω rfl
          refine t_app1 (os := F.map fun k : Nat => .d (.int (k : Int))) (o := .d (.int (y : Int))) (ω2 := [some (.d (ad)), some (.d (fd)), some (.d (sd)), some (.d (.int ((s : Int)))), some (fO n (ptD (put P y (x, (i : Int), e)))), some (.d (.int ((x : Int)))), some (nO (F ++ [y])), some (.d (.int (((a + 1 : Nat) : Int)))), some (.d (.int ((i : Int)))), some (.d (.int ((y : Int)))), some (.d (.int (e)))]) rfl (by simp [viewD_x, viewD_fO, viewD_n]) (by rw [List.length_map]; omega) (by rw [nO_app]; rfl) ?_
          refine ⟨put P y (x, (i : Int), e), F ++ [y], rfl, h.add hx hy yn st hr, ?_, fun p hp hr => ?_⟩
          · rw [List.getElem?_append_left (List.getElem?_eq_some_iff.mp hx).1]; exact hx
          · rcases List.mem_append.mp hp with q | q
            · exact put_old (hd p q hr)
            · rw [List.mem_singleton.mp q]
              unfold put
              rw [if_pos rfl]
              rfl
      · rcases List.mem_append.mp hp with q | q
        · exact hd p q
        · rw [List.mem_singleton.mp q]
          intro hr
          show (P y).isSome = true
          cases hc : P y with
          | none =>
            rw [hc, decide_eq_true hr] at hb
            cases hb
          | some l => rfl
    · rintro ω ⟨P, F, rfl, h, hx, hd⟩
      have q := h.next hx fun i y e st hr => hd (i, y, e) (mem_sts.mpr st) hr
      have ql := q.le
      have qn := q.len
      exact ⟨n - (a + 1), by omega, P, F, a + 1, rfl, q, rfl⟩
  · refine x_lbA (b := false) (by
      generalize nO F = qo at *
      generalize nD F = qd at *
      generalize fO n (ptD P) = po at *
      simp [fz, nl]
      omega) ⟨fun _ => ?_, fun h => nomatch h⟩
    have ea : a = F.length := by have := h.le; omega
    subst ea
    exact t_ret (o := fO n (ptD P)) (ω1 := [some (.d (ad)), some (.d (fd)), some (.d (sd)), some (.d (.int ((s : Int)))), none, none, some (nO F), some (.d (.int (((F.length : Nat) : Int)))), none, none, none]) rfl ⟨P, F, rfl, h⟩
end Lw.Fo
namespace Lw.Fo
open PySem PySem.Spec PyProof.Rows L2 FL VL Fg
def wpD (p : Nat × Int) : D := .tup [.int (p.1 : Int), .int p.2]
def waO (L : List (Nat × Int)) : O := .l (L.map fun p => .d (wpD p))
def waD (L : List (Nat × Int)) : D := .lst (L.map wpD)
theorem frz_wa {L : List (Nat × Int)} : frz (waO L) = waD L := by unfold waO waD; rw [frz_l, frzL_md]
theorem viewD_wa {L : List (Nat × Int)} {ω : Om} : viewD (some (waO L) :: ω) = none :: viewD ω := rfl
theorem wa_seq {L : List (Nat × Int)} : kSeq [waD L] = some (L.map fun p => .one (wpD p)) := by unfold waD; exact kSeq_m
theorem waO_app {L : List (Nat × Int)} {p : Nat × Int} : waO (L ++ [p]) = .l ((L.map fun p => .d (wpD p)) ++ [.d (wpD p)]) := by unfold waO; rw [List.map_append]; rfl
theorem bfs_lt {n s a : Nat} {E : List Arc} {f : List Int} {P : Pt} {F : List Nat} (h : Bfs n E f s P F a) {x b : Nat} {i e : Int} (hx : x < n) (hp : P x = some (b, i, e)) : b < n := by
  have xF := (h.mem x hx).mpr (by rw [hp]; rfl)
  obtain ⟨j, hj⟩ := List.getElem?_of_mem xF
  rcases Nat.eq_zero_or_pos j with q | q
  · subst q
    rw [h.s0] at hj
    cases hj
    rw [h.ps] at hp
    cases hp
    exact hx
  · obtain ⟨b', i', k', e', h1, _, h3, _⟩ := h.back j x q hj
    rw [hp] at h1
    cases h1
    exact h.lt _ (List.mem_of_getElem? h3)
theorem way_back_ok {n s t : Nat} {P : Pt} (hb : ∀ x b i e, x < n → P x = some (b, i, e) → b < n) (tn : t < n) {L : List (Nat × Int)} (h : Bk P s t L) (hl : L.length ≤ 1000) : v_way_back [fD n (ptD P), .int (t : Int)] = .ok (waO L) := by
  have ix := fun (x : Nat) (hx : x < n) => fD_ix (n := n) (f := ptD P) (x := (x : Int)) rfl hx
  have pt : ∀ x b i e, P x = some (b, i, e) → ptD P x = .tup [.int (b : Int), .int i, .int e] := fun x b i e hp => by unfold ptD; rw [hp]
  unfold v_way_back
  refine w_isP ?_
  generalize fD n (ptD P) = pd at *
  obtain ⟨b, i, e, hp⟩ : ∃ b i e, P t = some (b, i, e) := by
    cases h with
    | stop hp => exact ⟨_, _, _, hp⟩
    | step hp _ => exact ⟨_, _, _, hp⟩
  show W (cSeq _ _ [some (.d (pd)), some (.d (.int ((t : Int)))), none, none, none, none]) _ _ _ _
  refine t_set (o := waO []) (ω1 := [some (.d (pd)), some (.d (.int ((t : Int)))), none, none, none, none]) (ω2 := [some (.d (pd)), some (.d (.int ((t : Int)))), some (waO []), none, none, none]) (by simp [waO]) (by simp only [List.set_cons_zero, List.set_cons_succ] <;> rfl) ?_
  have i0 := ix t tn
  rw [pt t b i e hp] at i0
  refine t_asgT (d := .tup [.int (b : Int), .int i, .int e]) (ω1 := [some (.d (pd)), some (.d (.int ((t : Int)))), some (waO []), none, none, none]) (ω2 := [some (.d (pd)), some (.d (.int ((t : Int)))), some (waO ([])), some (.d (.int (((b : Nat) : Int)))), some (.d (.int (i))), some (.d (.int (e)))]) (by simp [viewD_x, viewD_wa, i0]) (by simp) ?_
  refine w_seq (w_while (fun m ω => ∃ (x : Nat) (L0 L1 : List (Nat × Int)) (b : Nat) (i e : Int), ω = [some (.d (pd)), some (.d (.int ((t : Int)))), some (waO (L0)), some (.d (.int (((b : Nat) : Int)))), some (.d (.int (i))), some (.d (.int (e)))] ∧ x < n ∧ P x = some (b, i, e) ∧ Bk P s x L1 ∧ L = L0 ++ L1 ∧ m = L1.length) L.length (by omega) ⟨t, [], L, b, i, e, rfl, tn, hp, h, rfl, rfl⟩ ?_)
  rintro m ω ⟨x, L0, L1, b, i, e, rfl, xn, hp, hk, eL, rfl⟩
  have ll := congrArg List.length eL
  rw [List.length_append] at ll
  cases hk with
  | stop hp2 =>
    rw [hp] at hp2
    cases hp2
    rw [List.append_nil] at eL
    refine x_lbA (b := false) (by
      generalize waO L0 = wo at *
      simp) ⟨fun _ => ?_, fun h => nomatch h⟩
    exact t_ret (o := waO L) (ω1 := [some (.d (pd)), some (.d (.int ((t : Int)))), none, some (.d (.int (((s : Nat) : Int)))), some (.d (.int ((-1)))), some (.d (.int (0)))]) (by rw [eL]; rfl) rfl
  | @step _ b' i' e' L' hp2 hk' =>
    rw [hp] at hp2
    cases hp2
    have bn := hb x b _ e xn hp
    obtain ⟨b2, i2, e2, hp2⟩ : ∃ b2 i2 e2, P b = some (b2, i2, e2) := by
      cases hk' with
      | stop hq => exact ⟨_, _, _, hq⟩
      | step hq _ => exact ⟨_, _, _, hq⟩
    have i1 := ix b bn
    rw [pt b b2 i2 e2 hp2] at i1
    rw [List.length_cons] at ll
    refine x_lbA (b := true) (by
      generalize waO L0 = wo at *
      simp) ⟨(fun h => nomatch h), fun _ => ?_⟩
    refine t_app (os := L0.map fun p => .d (wpD p)) (o := .d (wpD (i', e))) (ω2 := [some (.d (pd)), some (.d (.int ((t : Int)))), some (waO (L0 ++ [(i', e)])), some (.d (.int (((b : Nat) : Int)))), some (.d (.int ((i' : Int)))), some (.d (.int (e)))]) rfl (by simp [viewD_x, viewD_wa, wpD]) (by rw [List.length_map]; omega) (by rw [waO_app]; rfl) ?_
    refine t_asgT1 (d := .tup [.int (b2 : Int), .int i2, .int e2]) (ω1 := [some (.d (pd)), some (.d (.int ((t : Int)))), some (waO (L0 ++ [(i', e)])), some (.d (.int (((b : Nat) : Int)))), some (.d (.int ((i' : Int)))), some (.d (.int (e)))]) (ω2 := [some (.d (pd)), some (.d (.int ((t : Int)))), some (waO (L0 ++ [(i', e)])), some (.d (.int (((b2 : Nat) : Int)))), some (.d (.int (i2))), some (.d (.int (e2)))]) (by simp [viewD_x, viewD_wa, i1]) (by simp) ?_
    exact ⟨L'.length, by rw [List.length_cons]; omega, b, L0 ++ [(i', e)], L', b2, i2, e2, rfl, bn, hp2, hk', by rw [eL]; simp, rfl⟩
theorem net_out_ok {c : Bool} {E : List Arc} {f : List Int} {z : Nat} (hl : E.length ≤ 1000) (hf : f.length = E.length) : v_net_out [arsD c E, flD f, .int (z : Int)] = .ok (.d (.int (net E f z))) := by
  have ln := ars_len (c := c) (E := E)
  have aix := fun (k : Nat) (h : k < E.length) => ars_ix (c := c) h
  have fix := fun (k : Nat) (h : k < E.length) => f_ix (f := f) (k := k) (by omega)
  have krE := kRange1_m (j := (E.length : Int)) (inR_s (by omega) (by omega))
  unfold v_net_out
  refine w_isP ?_
  generalize arsD c E = ad at *
  generalize flD f = fd at *
  show W (cSeq _ _ [some (.d (ad)), some (.d (fd)), some (.d (.int ((z : Int)))), none, none]) _ _ _ _
  refine t_set (o := .d (.int 0)) (ω1 := [some (.d (ad)), some (.d (fd)), some (.d (.int ((z : Int)))), none, none]) (ω2 := [some (.d (ad)), some (.d (fd)), some (.d (.int ((z : Int)))), some (.d (.int (0))), none]) (by simp [viewD_x]) (by simp only [List.set_cons_zero, List.set_cons_succ] <;> rfl) ?_
  refine w_seq (w_for (fun i : Int => .one (.int i)) (rangeL 0 (E.length : Int)) (fun done ω => ω = [some (.d (ad)), some (.d (fd)), some (.d (.int ((z : Int)))), some (.d (.int (Fg.sm done.length fun i => fl f i * sg E i z))), none]) (ω0 := [some (.d (ad)), some (.d (fd)), some (.d (.int ((z : Int)))), some (.d (.int (0))), none]) (by simp [iX, viewD_x, ln, krE]) rfl ?_ ?_)
  · rintro done x rest ω er rfl
    obtain ⟨hx, hlt⟩ := rangeL_split er
    have hl2 : (done ++ [x]).length = done.length + 1 := by simp
    rw [hl2]
    generalize done.length = m at *
    have hx : x = (m : Int) := by omega
    subst hx
    have mE : m < E.length := by omega
    have i0 := aix m mE
    have i1 := fix m mE
    have a0 : gIx (arD (arc E m)) (.int 0) = some (.d (.int ((arc E m).1 : Int))) := rfl
    have a1 : gIx (arD (arc E m)) (.int 1) = some (.d (.int ((arc E m).2.1 : Int))) := rfl
    have ns : Fg.sm (m + 1) (fun i => fl f i * sg E i z) = Fg.sm m (fun i => fl f i * sg E i z) + fl f m * (is (arc E m).1 z - is (arc E m).2.1 z) := rfl
    rw [ns]
    generalize Fg.sm m (fun i => fl f i * sg E i z) = acc at *
    generalize arD (arc E m) = xd at *
    generalize (arc E m).1 = u at *
    generalize (arc E m).2.1 = v at *
    generalize fl f m = q at *
    refine ⟨[some (.d (ad)), some (.d (fd)), some (.d (.int ((z : Int)))), some (.d (.int (acc))), some (.d (.int ((m : Int))))], rfl, ?_⟩
    refine w_cut (fun ω => ω = [some (.d (ad)), some (.d (fd)), some (.d (.int ((z : Int)))), some (.d (.int ((acc + q * is u z)))), some (.d (.int ((m : Int))))]) ?_ ?_
    · have e : decide ((u : Int) = (z : Int)) = decide (u = z) := decide_eq_decide.mpr (by omega)
      refine t_if1 (b := decide (u = z)) (ω1 := [some (.d (ad)), some (.d (fd)), some (.d (.int ((z : Int)))), some (.d (.int (acc))), some (.d (.int ((m : Int))))]) (by rw [← e]; simp [i0, a0]) (fun hb => ?_) fun hb => w_nx ?_
      · have h := of_decide_eq_true hb
        unfold is
        rw [if_pos h, Int.mul_one]
        exact t_aug1 (x := .int acc) (y := .int q) (d := .int (acc + q)) (ω1 := [some (.d (ad)), some (.d (fd)), some (.d (.int ((z : Int)))), some (.d (.int (acc))), some (.d (.int ((m : Int))))]) (ω2 := [some (.d (ad)), some (.d (fd)), some (.d (.int ((z : Int)))), some (.d (.int ((acc + q)))), some (.d (.int ((m : Int))))]) rfl (by simp [viewD_x, i1]) rfl rfl rfl
      · have h := of_decide_eq_false hb
        unfold is
        rw [if_neg h, Int.mul_zero, Int.add_zero]
    · rintro ω rfl
      have e : decide ((v : Int) = (z : Int)) = decide (v = z) := decide_eq_decide.mpr (by omega)
      have fin : acc + q * (is u z - is v z) = acc + q * is u z - q * is v z := by rw [Int.mul_sub]; omega
      rw [fin]
      generalize acc + q * is u z = acc at *
      refine t_if1 (b := decide (v = z)) (ω1 := [some (.d (ad)), some (.d (fd)), some (.d (.int ((z : Int)))), some (.d (.int (acc))), some (.d (.int ((m : Int))))]) (by rw [← e]; simp [i0, a1]) (fun hb => ?_) fun hb => w_nx ?_
      · have h := of_decide_eq_true hb
        unfold is
        rw [if_pos h, Int.mul_one]
        exact t_aug1 (x := .int acc) (y := .int q) (d := .int (acc - q)) (ω1 := [some (.d (ad)), some (.d (fd)), some (.d (.int ((z : Int)))), some (.d (.int (acc))), some (.d (.int ((m : Int))))]) (ω2 := [some (.d (ad)), some (.d (fd)), some (.d (.int ((z : Int)))), some (.d (.int ((acc - q)))), some (.d (.int ((m : Int))))]) rfl (by simp [viewD_x, i1]) rfl rfl rfl
      · have h := of_decide_eq_false hb
        unfold is
        rw [if_neg h, Int.mul_zero, Int.sub_zero]
        rfl
  · rintro ω rfl
    rw [rangeL_len, show ((E.length : Int) - 0).toNat = E.length by omega]
    show W (VL.cRet _ [some (.d (ad)), some (.d (fd)), some (.d (.int ((z : Int)))), some (.d (.int (net E f z))), none]) _ _ _ _
    exact t_ret (o := .d (.int (net E f z))) (ω1 := [some (.d (ad)), some (.d (fd)), some (.d (.int ((z : Int)))), some (.d (.int (net E f z))), none]) (by simp [viewD_x]) rfl
end Lw.Fo
namespace Lw.Fo
open PySem PySem.Spec PyProof.Rows L2 FL VL Fg
theorem eTupO_3 {ω ω1 ω2 ω3 : Om} {f g h : EO} {a b c : O} (e1 : f ω = .ok (a, ω1)) (e2 : g ω1 = .ok (b, ω2)) (e3 : h ω2 = .ok (c, ω3)) : eTupO (eoCons f (eoCons g (eoCons h eoNil))) ω = .ok (.t [a, b, c], ω3) := by
  rw [eTupO_ap]
  have : eoCons f (eoCons g (eoCons h eoNil)) ω = .ok ([a, b, c], ω3) := by
    unfold eoCons
    rw [e1]
    show bnd (bnd (g ω1) _) _ = _
    rw [e2]
    show bnd (bnd (bnd (h ω2) _) _) _ = _
    rw [e3]
    rfl
  rw [this]
  show (if [a, b, c].length ≤ sizeLine then R.ok (O.t [a, b, c], ω3) else R.no) = _
  rw [if_pos (by simp [sizeLine])]
theorem flat_pt {n : Nat} {P : Pt} : flatO (fO n (ptD P)) = true := by
  unfold fO
  rw [flatO_l]
  refine flatOL_map fun j _ => ?_
  rw [show flatO (.d (ptD P j)) = flat (ptD P j) from by simp]
  unfold ptD
  cases P j with
  | none => rfl
  | some v => obtain ⟨b, i, e⟩ := v; simp
theorem tup_ar {a : Arc} : gTuple [arD a] = some (.d (arD a)) := rfl
theorem frz_ars {E : List Arc} : frz (.l (E.map fun a => O.d (arD a))) = arsD false E := by rw [frz_l, frzL_md]; rfl
theorem app_next {m : Int} {L : List (Nat × Int)} {p : Nat × Int} {f : List Int} : Fg.app m (L ++ [p]) f = (Fg.app m L f).set p.1 (fl (Fg.app m L f) p.1 + p.2 * m) := by unfold Fg.app; rw [List.foldl_append]; rfl
theorem net_0 {E : List Arc} {z : Nat} : net E (E.map fun _ => 0) z = 0 := by
  have q : ∀ i, fl (E.map fun _ => (0 : Int)) i = 0 := fun i => by
    unfold fl
    rw [List.getElem?_map]
    cases E[i]? <;> rfl
  unfold net
  rw [sm_ext (h := fun _ => 0) fun i _ => by rw [q, Int.zero_mul]]
  exact sm_0
def side (n : Nat) (P : Pt) : List Nat := (List.range n).filter fun z => (P z).isSome
theorem mem_side {n z : Nat} {P : Pt} : z ∈ side n P ↔ z < n ∧ (P z).isSome = true := by
  unfold side
  rw [List.mem_filter, List.mem_range]
/-- an answer of greatest_flow -/
structure Gre (n : Nat) (E : List Arc) (s t : Nat) (f : List Int) (F : List Nat) : Prop where
  flo : Flo n E s t f
  asc : F.Pairwise (· < ·)
  lt : ∀ x ∈ F, x < n
  sF : s ∈ F
  tF : t ∉ F
  cut : net E f s = across E F E.length
theorem greatest_flow_ok {c : Bool} {n s t : Nat} {E : List Arc} (hE : Fg.In n E) (hn : n ≤ 100) (hl : E.length ≤ 99) (hM : ∀ i, i < E.length → (arc E i).2.2 ≤ 1000000) (hs : s < n) (ht : t < n) (st : s ≠ t) : ∃ o, v_greatest_flow [.int (n : Int), arsD c E, .int (s : Int), .int (t : Int)] = .ok o ∧ ∃ f F, o = .t [.d (.int (net E f s)), flO f, nO F] ∧ Gre n E s t f F := by
  have hl2 : E.length ≤ 1000 := by omega
  have hseq := ars_seq (c := c) (E := E)
  have aseq := ars_seq (c := false) (E := E)
  have sf := steps_from_ok (c := false) hE hn hl2
  have fsf := frz_rs (n := n) (f := sts E E.length)
  have rf := fun (f : List Int) (hf : f.length = E.length) => reached_from_ok (c := false) hE hn hl2 hf hs
  have wb := fun (P : Pt) (hb : ∀ x b i e, x < n → P x = some (b, i, e) → b < n) (L : List (Nat × Int)) (h : Bk P s t L) (hl : L.length ≤ 1000) => way_back_ok hb ht h hl
  have rm := fun (f : List Int) (hf : f.length = E.length) (i : Nat) (e : Int) (hi : i < E.length) => room_left_ok (c := false) (e := e) hi hf
  have no := fun (f : List Int) (hf : f.length = E.length) => net_out_ok (c := false) (z := s) hl2 hf
  have kr := kRange1_m (j := (n : Int)) (inR_s (by omega) (by omega))
  unfold v_greatest_flow
  refine w_fnP ?_
  have faE := frz_ars (E := E)
  generalize arsD false E = ad at *
  generalize arsD c E = hd at *
  generalize hsd : rsD n (sts E E.length) = sd at *
  generalize rsO n (sts E E.length) = so at *
  show W (cSeq _ _ [some (.d (.int ((n : Int)))), some (.d (hd)), some (.d (.int ((s : Int)))), some (.d (.int ((t : Int)))), none, none, none, none, none, none, none, none, none, none, none]) _ _ _ _
  have hc := cComp_all (σ := viewD [some (.d (.int ((n : Int)))), some (.d (hd)), some (.d (.int ((s : Int)))), some (.d (.int ((t : Int)))), none, none, none, none, none, none, none, none, none, none, none]) (g := VL.hN 5) (fi := iS (VL.cV 1)) (f := VL.cCBO gTuple (VL.aCons (VL.cV 5) VL.aNil)) (vs := [5]) (xs := E) (fun a => .one (arD a)) (fun a => .d (arD a)) (by
    show iS (VL.cV 1) _ = _
    simp [viewD_x, iS, hseq]) (by omega) fun a ha => ⟨_, rfl, by
    have tu := tup_ar (a := a)
    generalize arD a = xd at *
    simp [viewD_x, tu]⟩
  refine t_set (o := .d ad) (ω1 := [some (.d (.int ((n : Int)))), some (.d (hd)), some (.d (.int ((s : Int)))), some (.d (.int ((t : Int)))), none, none, none, none, none, none, none, none, none, none, none]) (ω2 := [some (.d (.int ((n : Int)))), some (.d (hd)), some (.d (.int ((s : Int)))), some (.d (.int ((t : Int)))), some (.d (ad)), none, none, none, none, none, none, none, none, none, none]) (by
    rw [eoD_ap, liD_ap, dO_ap, hc]
    show VL.R.ok (O.d (frz _), _) = _
    rw [faE]) (by simp only [List.set_cons_zero, List.set_cons_succ] <;> rfl) ?_
  refine t_set (o := .d sd) (ω1 := [some (.d (.int ((n : Int)))), some (.d (hd)), some (.d (.int ((s : Int)))), some (.d (.int ((t : Int)))), some (.d (ad)), none, none, none, none, none, none, none, none, none, none]) (ω2 := [some (.d (.int ((n : Int)))), some (.d (hd)), some (.d (.int ((s : Int)))), some (.d (.int ((t : Int)))), some (.d (ad)), none, some (.d (sd)), none, none, none, none, none, none, none, none]) (by simp [viewD_x, sf, fsf]) (by simp only [List.set_cons_zero, List.set_cons_succ] <;> rfl) ?_
  have hc2 := cComp_all (σ := viewD [some (.d (.int ((n : Int)))), some (.d (hd)), some (.d (.int ((s : Int)))), some (.d (.int ((t : Int)))), some (.d (ad)), none, some (.d (sd)), none, none, none, none, none, none, none, none]) (g := VL.hN 5) (fi := iS (VL.cV 4)) (f := oD (VL.cK (.int 0))) (vs := [5]) (xs := E) (fun a => .one (arD a)) (fun a => .d (.int 0)) (by
    show iS (VL.cV 4) _ = _
    simp [viewD_x, iS, aseq]) (by omega) fun a ha => ⟨_, rfl, rfl⟩
  have e0 : flO (E.map fun _ => 0) = .l (E.map fun _ => O.d (.int 0)) := by unfold flO; rw [List.map_map]; rfl
  refine t_set (o := flO (E.map fun _ => 0)) (ω1 := [some (.d (.int ((n : Int)))), some (.d (hd)), some (.d (.int ((s : Int)))), some (.d (.int ((t : Int)))), some (.d (ad)), none, some (.d (sd)), none, none, none, none, none, none, none, none]) (ω2 := [some (.d (.int ((n : Int)))), some (.d (hd)), some (.d (.int ((s : Int)))), some (.d (.int ((t : Int)))), some (.d (ad)), none, some (.d (sd)), some (flO (E.map fun _ => 0)), none, none, none, none, none, none, none]) (by
    rw [loD_ap, hc2, e0]
    rfl) (by simp only [List.set_cons_zero, List.set_cons_succ] <;> rfl) ?_
  have fzf := fun f : List Int => frz_f (f := f)
  have fl0 : (E.map fun _ => (0 : Int)).length = E.length := List.length_map _
  obtain ⟨_, e1, P0, F0, rfl, b0⟩ := rf _ fl0
  have fp0 := flat_pt (n := n) (P := P0)
  have zp0 := frz_fO (n := n) (f := ptD P0)
  refine t_set (o := .d (fD n (ptD P0))) (ω1 := [some (.d (.int ((n : Int)))), some (.d (hd)), some (.d (.int ((s : Int)))), some (.d (.int ((t : Int)))), some (.d (ad)), none, some (.d (sd)), some (flO (E.map fun _ => 0)), none, none, none, none, none, none, none]) (ω2 := [some (.d (.int ((n : Int)))), some (.d (hd)), some (.d (.int ((s : Int)))), some (.d (.int ((t : Int)))), some (.d (ad)), none, some (.d (sd)), some (flO (E.map fun _ => 0)), some (.d (fD n (ptD (P0)))), none, none, none, none, none, none]) (by
    have fz := fzf (E.map fun _ => 0)
    generalize flD (E.map fun _ => 0) = fd at *
    generalize flO (E.map fun _ => 0) = fo at *
    generalize fD n (ptD P0) = pd at *
    generalize fO n (ptD P0) = po at *
    simp [fz, e1, fp0, zp0]) (by simp only [List.set_cons_zero, List.set_cons_succ] <;> rfl) ?_
  have F0 : Flo n E s t (E.map fun _ => 0) := flo_0 hE
  have key : ∀ f, Flo n E s t f → net E f s ≤ (E.length : Int) * 1000000 := fun f h => h.net_le hM (by decide) s
  refine w_seq (w_while (fun m ω => ∃ (f : List Int) (P : Pt) (F : List Nat), ω = [some (.d (.int ((n : Int)))), some (.d (hd)), some (.d (.int ((s : Int)))), some (.d (.int ((t : Int)))), some (.d (ad)), none, some (.d (sd)), some (flO (f)), some (.d (fD n (ptD (P)))), none, none, none, none, none, none] ∧ Flo n E s t f ∧ Bfs n E f s P F F.length ∧ 0 ≤ net E f s ∧ m = ((E.length : Int) * 1000000 - net E f s).toNat) ((E.length : Int) * 1000000).toNat (by omega) ⟨_, P0, _, rfl, F0, b0, by rw [net_0]; exact Int.le_refl _, by rw [net_0, Int.sub_zero]⟩ ?_)
  rintro m ω ⟨f, P, F, rfl, h, b, n0, rfl⟩
  have fz := fzf f
  have pix := fun (x : Nat) (hx : x < n) => fD_ix (n := n) (f := ptD P) (x := (x : Int)) rfl hx
  have isn := fun (x : Nat) => pt_isn (P := P) (j := x)
  have pt := pix t ht
  have ist := isn t
  cases hP : P t with
  | none =>
    rw [hP] at ist
    have it0 : (none : Option (Nat × Int × Int)).isSome = false := rfl
    rw [it0] at ist
    refine x_lbA (b := false) (by
      generalize flD f = fd at *
      generalize flO f = fo at *
      generalize ptD P t = pv at *
      generalize fD n (ptD P) = pd at *
      simp [fz, pt, ist]) ⟨fun _ => ?_, fun h => nomatch h⟩
    have hc3 := cComp_eq (σ := viewD [some (.d (.int ((n : Int)))), some (.d (hd)), some (.d (.int ((s : Int)))), some (.d (.int ((t : Int)))), some (.d (ad)), none, some (.d (sd)), some (flO (f)), some (.d (fD n (ptD (P)))), none, none, none, none, none, none]) (g := VL.hN 14) (fi := iP kRange1 (VL.aCons (VL.cV 0) VL.aNil)) (c := VL.cB (VL.cBin gIsN (VL.cBin gIx (VL.cV 8) (VL.cV 14)) (VL.cK .non))) (f := oD (VL.cV 14)) (vs := [14]) (xs := List.range n) (fun z => .one (.int (z : Int))) (fun z => (P z).isSome) (fun z => .d (.int (z : Int))) (by
      rw [show (List.range n).map (fun z : Nat => ItD.one (.int (z : Int))) = (rangeL 0 (n : Int)).map fun i => .one (.int i) by rw [rng_n, List.map_map]; rfl]
      simp [viewD_x, viewD_f, kr]) (by rw [List.length_range]; omega) fun z hz => ⟨viewD [some (.d (.int ((n : Int)))), some (.d (hd)), some (.d (.int ((s : Int)))), some (.d (.int ((t : Int)))), some (.d (ad)), none, some (.d (sd)), some (flO (f)), some (.d (fD n (ptD (P)))), none, none, none, none, none, some (.d (.int ((z : Int))))], rfl, by
        have i1 := pix z (List.mem_range.mp hz)
        have i2 := isn z
        generalize ptD P z = pv at *
        generalize fD n (ptD P) = pd at *
        simp [viewD_x, viewD_f, i1, i2], fun _ => by simp [viewD_x, viewD_f]⟩
    refine t_set (o := nO (side n P)) (ω1 := [some (.d (.int ((n : Int)))), some (.d (hd)), some (.d (.int ((s : Int)))), some (.d (.int ((t : Int)))), some (.d (ad)), none, some (.d (sd)), some (flO (f)), some (.d (fD n (ptD (P)))), none, none, none, none, none, none]) (ω2 := [some (.d (.int ((n : Int)))), some (.d (hd)), some (.d (.int ((s : Int)))), some (.d (.int ((t : Int)))), some (.d (ad)), none, some (.d (sd)), some (flO (f)), some (.d (fD n (ptD (P)))), none, none, none, none, some (nO (side n P)), none]) (by
      rw [loD_ap, hc3]
      rfl) (by simp only [List.set_cons_zero, List.set_cons_succ] <;> rfl) ?_
    have nn := no f h.len
    have sm : s ∈ side n P := mem_side.mpr ⟨hs, by rw [b.ps]; rfl⟩
    have cutE : across E F E.length = across E (side n P) E.length := by
      unfold across
      refine sm_ext fun i hi => ?_
      obtain ⟨un, vn, _⟩ := hE.at hi
      have q : ∀ x, x < n → (x ∈ F ↔ x ∈ side n P) := fun x hx => by
        rw [mem_side, b.mem x hx]
        exact ⟨fun h => ⟨hx, h⟩, fun h => h.2⟩
      simp only [q _ un, q _ vn]
    refine t_ret (o := .t [.d (.int (net E f s)), flO f, nO (side n P)]) (ω1 := [some (.d (.int ((n : Int)))), some (.d (hd)), some (.d (.int ((s : Int)))), some (.d (.int ((t : Int)))), some (.d (ad)), none, some (.d (sd)), none, some (.d (fD n (ptD P))), none, none, none, none, none, none]) (eTupO_3 (ω1 := [some (.d (.int ((n : Int)))), some (.d (hd)), some (.d (.int ((s : Int)))), some (.d (.int ((t : Int)))), some (.d (ad)), none, some (.d (sd)), some (flO (f)), some (.d (fD n (ptD (P)))), none, none, none, none, some (nO (side n P)), none]) (ω2 := [some (.d (.int ((n : Int)))), some (.d (hd)), some (.d (.int ((s : Int)))), some (.d (.int ((t : Int)))), some (.d (ad)), none, some (.d (sd)), none, some (.d (fD n (ptD P))), none, none, none, none, some (nO (side n P)), none]) ?_ rfl rfl) ⟨f, side n P, rfl, h, List.pairwise_lt_range.filter _, fun x hx => (mem_side.mp hx).1, sm, fun m => ?_, by rw [h.cut hE b ht hP, cutE]⟩
    · generalize flD f = fd at *
      generalize flO f = fo at *
      generalize nO (side n P) = sd2 at *
      generalize fD n (ptD P) = pd at *
      simp [fz, nn]
    · have := (mem_side.mp m).2
      rw [hP] at this
      cases this
  | some v =>
    rw [hP] at ist
    have it0 : (some v).isSome = true := rfl
    rw [it0] at ist
    refine x_lbA (b := true) (by
      generalize flD f = fd at *
      generalize flO f = fo at *
      generalize ptD P t = pv at *
      generalize fD n (ptD P) = pd at *
      simp [fz, pt, ist]) ⟨(fun h => nomatch h), fun _ => ?_⟩
    have tF : t ∈ F := (b.mem t ht).mpr (by rw [hP]; rfl)
    obtain ⟨k, hk⟩ := List.getElem?_of_mem tF
    obtain ⟨L, bk, bl, wy, _⟩ := b.way k t hk
    have bln := b.len
    have kF := (List.getElem?_eq_some_iff.mp hk).1
    have wbk := wb P (fun x b' i e hx hp => bfs_lt b hx hp) L bk (by omega)
    have fwa := frz_wa (L := L)
    have was := wa_seq (L := L)
    have Lne : L ≠ [] := fun e => by
      rw [e] at bk
      cases bk
      exact st rfl
    have rml := rm f h.len
    have rne : (L.map fun p => room E f p.1 p.2) ≠ [] := fun e => Lne (List.map_eq_nil_iff.mp e)
    have gm := gMin_s rne
    have mle : ∀ p ∈ L, minI (L.map fun p => room E f p.1 p.2) ≤ room E f p.1 p.2 := fun p hp => minI_le _ _ (List.mem_map_of_mem (f := fun p => room E f p.1 p.2) hp)
    have m1 : 0 < minI (L.map fun p => room E f p.1 p.2) := by
      obtain ⟨p, hp, e⟩ := List.mem_map.mp (minI_mem _ rne)
      have := (wy.ok p hp).2.2
      omega
    rw [List.map_map] at gm
    have fr : frz (.l (L.map fun p => O.d (.int (room E f p.1 p.2)))) = .lst (L.map fun p => .int (room E f p.1 p.2)) := by rw [frz_l, frzL_md]
    have gm : gMin [.lst (L.map fun p => .int (room E f p.1 p.2))] = some (.d (.int (minI (L.map fun p => room E f p.1 p.2)))) := gm
    generalize minI (L.map fun p => room E f p.1 p.2) = m at *
    refine t_set (o := .d (waD L)) (ω1 := [some (.d (.int ((n : Int)))), some (.d (hd)), some (.d (.int ((s : Int)))), some (.d (.int ((t : Int)))), some (.d (ad)), none, some (.d (sd)), some (flO (f)), some (.d (fD n (ptD (P)))), none, none, none, none, none, none]) (ω2 := [some (.d (.int ((n : Int)))), some (.d (hd)), some (.d (.int ((s : Int)))), some (.d (.int ((t : Int)))), some (.d (ad)), none, some (.d (sd)), some (flO (f)), some (.d (fD n (ptD (P)))), some (.d (waD L)), none, none, none, none, none]) (by
      generalize waD L = wd at *
      generalize waO L = wo at *
      generalize fD n (ptD P) = pd at *
      simp [viewD_x, viewD_f, wbk, fwa]) (by simp only [List.set_cons_zero, List.set_cons_succ] <;> rfl) ?_
    obtain ⟨CC, hCC⟩ : ∃ CC, CC = VL.cComp (iS (VL.cV 9)) (VL.hT 2 (VL.hCons (VL.hN 11) (VL.hCons (VL.hN 12) VL.hNil))) VL.cYes (VL.cCall v_room_left 4 (VL.aCons (VL.cV 4) (VL.aCons (VL.cV 7) (VL.aCons (VL.cV 11) (VL.aCons (VL.cV 12) VL.aNil))))) [11, 12] := ⟨_, rfl⟩
    have hc4 : CC (viewA [some (.d (.int ((n : Int)))), some (.d (hd)), some (.d (.int ((s : Int)))), some (.d (.int ((t : Int)))), some (.d (ad)), none, some (.d (sd)), some (flO (f)), some (.d (fD n (ptD (P)))), some (.d (waD L)), none, none, none, none, none]) = .ok (.l (L.map fun p => O.d (.int (room E f p.1 p.2)))) := by
      rw [hCC]
      refine cComp_all (fun p : Nat × Int => .one (wpD p)) (fun p => .d (.int (room E f p.1 p.2))) ?_ (by omega) fun p hp => ⟨viewA [some (.d (.int ((n : Int)))), some (.d (hd)), some (.d (.int ((s : Int)))), some (.d (.int ((t : Int)))), some (.d (ad)), none, some (.d (sd)), some (flO (f)), some (.d (fD n (ptD (P)))), some (.d (waD L)), none, some (.d (.int ((p.1 : Int)))), some (.d (.int (p.2))), none, none], rfl, ?_⟩
      · show iS (VL.cV 9) _ = _
        generalize waD L = wd at *
        generalize flO f = fo at *
        simp [iS, was]
      · have r1 := rml p.1 p.2 (wy.ok p hp).1
        generalize waD L = wd at *
        generalize fD n (ptD P) = pd at *
        generalize flD f = fd at *
        generalize flO f = fo at *
        simp [fz, r1]
    refine t_set (o := .d (.int m)) (ω1 := [some (.d (.int ((n : Int)))), some (.d (hd)), some (.d (.int ((s : Int)))), some (.d (.int ((t : Int)))), some (.d (ad)), none, some (.d (sd)), some (flO (f)), some (.d (fD n (ptD (P)))), some (.d (waD L)), none, none, none, none, none]) (ω2 := [some (.d (.int ((n : Int)))), some (.d (hd)), some (.d (.int ((s : Int)))), some (.d (.int ((t : Int)))), some (.d (ad)), none, some (.d (sd)), some (flO (f)), some (.d (fD n (ptD (P)))), some (.d (waD L)), some (.d (.int (m))), none, none, none, none]) (by
      rw [← hCC]
      clear hCC
      generalize (O.l (L.map fun p => O.d (.int (room E f p.1 p.2)))) = ro at *
      generalize (D.lst (L.map fun p => D.int (room E f p.1 p.2))) = rd at *
      have e4 : VL.cCB gMin (VL.aCons (dO CC) VL.aNil) (viewA [some (.d (.int ((n : Int)))), some (.d (hd)), some (.d (.int ((s : Int)))), some (.d (.int ((t : Int)))), some (.d (ad)), none, some (.d (sd)), some (flO (f)), some (.d (fD n (ptD (P)))), some (.d (waD L)), none, none, none, none, none]) = .ok (.int m) := by
        generalize viewA [some (.d (.int ((n : Int)))), some (.d (hd)), some (.d (.int ((s : Int)))), some (.d (.int ((t : Int)))), some (.d (ad)), none, some (.d (sd)), some (flO (f)), some (.d (fD n (ptD (P)))), some (.d (waD L)), none, none, none, none, none] = va at *
        simp [hc4, fr, gm]
      have e5 : liA (VL.cCB gMin (VL.aCons (dO CC) VL.aNil)) [some (.d (.int ((n : Int)))), some (.d (hd)), some (.d (.int ((s : Int)))), some (.d (.int ((t : Int)))), some (.d (ad)), none, some (.d (sd)), some (flO (f)), some (.d (fD n (ptD (P)))), some (.d (waD L)), none, none, none, none, none] = .ok (.int m, [some (.d (.int ((n : Int)))), some (.d (hd)), some (.d (.int ((s : Int)))), some (.d (.int ((t : Int)))), some (.d (ad)), none, some (.d (sd)), some (flO (f)), some (.d (fD n (ptD (P)))), some (.d (waD L)), none, none, none, none, none]) := by
        generalize VL.cCB gMin (VL.aCons (dO CC) VL.aNil) = c1 at *
        generalize [some (.d (.int ((n : Int)))), some (.d (hd)), some (.d (.int ((s : Int)))), some (.d (.int ((t : Int)))), some (.d (ad)), none, some (.d (sd)), some (flO (f)), some (.d (fD n (ptD (P)))), some (.d (waD L)), none, none, none, none, none] = w1 at *
        simp [e4]
      rw [eoD_ap, e5]
      rfl) (by simp only [List.set_cons_zero, List.set_cons_succ] <;> rfl) ?_
    clear hc4 hCC
    have hL : ∀ p ∈ L, p.1 < E.length := fun p hp => (wy.ok p hp).1
    refine w_cut (fun ω => ω = [some (.d (.int ((n : Int)))), some (.d (hd)), some (.d (.int ((s : Int)))), some (.d (.int ((t : Int)))), some (.d (ad)), none, some (.d (sd)), some (flO (Fg.app m L f)), some (.d (fD n (ptD (P)))), some (.d (waD L)), some (.d (.int (m))), none, none, none, none]) ?_ ?_
    · refine w_for (fun p : Nat × Int => .one (wpD p)) L (fun done ω => ω = [some (.d (.int ((n : Int)))), some (.d (hd)), some (.d (.int ((s : Int)))), some (.d (.int ((t : Int)))), some (.d (ad)), none, some (.d (sd)), some (flO (Fg.app m done f)), some (.d (fD n (ptD (P)))), some (.d (waD L)), some (.d (.int (m))), none, none, none, none]) (ω0 := [some (.d (.int ((n : Int)))), some (.d (hd)), some (.d (.int ((s : Int)))), some (.d (.int ((t : Int)))), some (.d (ad)), none, some (.d (sd)), some (flO (f)), some (.d (fD n (ptD (P)))), some (.d (waD L)), some (.d (.int (m))), none, none, none, none]) (iSX_li (d := waD L) (by simp [viewD_x, viewD_f]) was) rfl ?_ fun ω h => h
      rintro done ⟨i, e⟩ rest ω er rfl
      have hp : (i, e) ∈ L := by rw [er]; simp
      have iE := hL _ hp
      have es := (wy.ok _ hp).2.1
      simp only at iE es
      have fl2 : (Fg.app m done f).length = E.length := by rw [app_len]; exact h.len
      rw [app_next]
      have fzg := fzf (Fg.app m done f)
      generalize Fg.app m done f = g at *
      have gmu : gMul (.int e) (.int m) = some (.d (.int (e * m))) := gMul_l (by omega) (by omega)
      refine ⟨[some (.d (.int ((n : Int)))), some (.d (hd)), some (.d (.int ((s : Int)))), some (.d (.int ((t : Int)))), some (.d (ad)), none, some (.d (sd)), some (flO (g)), some (.d (fD n (ptD (P)))), some (.d (waD L)), some (.d (.int (m))), some (.d (.int ((i : Int)))), some (.d (.int (e))), none, none], rfl, w_of (augS_i (j := i) (os := g.map fun i => .d (.int i)) (v := fl g i) (c := e * m) rfl ?_ ?_ (by rw [List.getElem?_map, fl_at (by omega)]; rfl)) ?_⟩
      · generalize flO g = fo at *
        simp
      · generalize flO g = fo at *
        simp [gmu]
      · have : O.l ((g.map fun i => O.d (.int i)).set i (.d (.int (fl g i + e * m)))) = flO (g.set i (fl g i + e * m)) := by
          unfold flO
          rw [List.map_set]
        rw [this]
        rfl
    rintro ω rfl
    obtain ⟨h', hn'⟩ := h.app wy st (Int.le_of_lt m1) mle
    obtain ⟨_, e2, P', F', rfl, b'⟩ := rf _ h'.len
    have bo := key _ h'
    have fp1 := flat_pt (n := n) (P := P')
    have zp1 := frz_fO (n := n) (f := ptD P')
    have fz1 := fzf (Fg.app m L f)
    refine t_set1 (o := .d (fD n (ptD P'))) (ω1 := [some (.d (.int ((n : Int)))), some (.d (hd)), some (.d (.int ((s : Int)))), some (.d (.int ((t : Int)))), some (.d (ad)), none, some (.d (sd)), some (flO (Fg.app m L f)), some (.d (fD n (ptD (P)))), some (.d (waD L)), some (.d (.int (m))), none, none, none, none]) (ω2 := [some (.d (.int ((n : Int)))), some (.d (hd)), some (.d (.int ((s : Int)))), some (.d (.int ((t : Int)))), some (.d (ad)), none, some (.d (sd)), some (flO (Fg.app m L f)), some (.d (fD n (ptD (P')))), some (.d (waD L)), some (.d (.int (m))), none, none, none, none]) (by
      generalize flD (Fg.app m L f) = fd at *
      generalize flO (Fg.app m L f) = fo at *
      generalize fD n (ptD P') = pd1 at *
      generalize fO n (ptD P') = po1 at *
      generalize fD n (ptD P) = pd at *
      simp [fz1, e2, fp1, zp1]) (by simp only [List.set_cons_zero, List.set_cons_succ] <;> rfl) ⟨_, ?_, Fg.app m L f, P', F', rfl, h', b', by omega, rfl⟩
    omega
end Lw.Fo
namespace Lw.Fo
open PySem PySem.Spec PyProof.Rows L2 FL VL Fg
theorem nin_k (i : Nat) (F : List Nat) : gNotIn (.int (i : Int)) (nD F) = some (.d (.bl (!decide (i ∈ F)))) := by
  have := Lw.Fr.ninS (i : Int) (F.map fun k : Nat => (k : Int))
  rw [show Lw.Fr.iL (F.map fun k : Nat => (k : Int)) = nD F by unfold Lw.Fr.iL nD; rw [List.map_map]; rfl] at this
  rw [this]
  have e : decide ((i : Int) ∈ F.map fun k : Nat => (k : Int)) = decide (i ∈ F) := decide_eq_decide.mpr (by
    rw [List.mem_map]
    exact ⟨fun ⟨k, hk, e⟩ => by have : k = i := Int.ofNat.inj e; rw [← this]; exact hk, fun h => ⟨i, h, rfl⟩⟩)
  rw [e]
def cst (F : List Nat) : List Int := F.map fun k : Nat => (k : Int)
theorem nD_q {F : List Nat} : nD F = qL false (cst F) := by
  unfold nD qL cst
  rw [List.map_map]
  rfl
theorem in_k (i : Nat) (F : List Nat) : gIn (.int (i : Int)) (nD F) = some (.d (.bl (decide (i ∈ F)))) := by
  rw [nD_q]
  refine (EqE.int.gIn (by decide) (i : Int) _).trans (congrArg (fun b => some (O.d (D.bl b))) (decide_eq_decide.mpr ?_))
  unfold cst
  rw [List.mem_map]
  exact ⟨fun ⟨k, hk, e⟩ => by have : k = i := Int.ofNat.inj e; rw [← this]; exact hk, fun h => ⟨i, h, rfl⟩⟩
theorem n_seq {F : List Nat} : kSeq [nD F] = some (F.map fun k : Nat => .one (.int (k : Int))) := by unfold nD; exact kSeq_m
theorem flD_q {f : List Int} : flD f = qL false f := rfl
theorem wholeL {i : Int} : v_l_whole [.int i] = .ok (.d (.bl true)) := by simp [v_l_whole, fnP]
def iF (g : Nat → Int) : Nat → D := fun j => .int (g j)
theorem fO_upd {n y : Nat} {g : Nat → Int} {v : Int} (hy : y < n) : O.l (((List.range n).map fun j => O.d (iF g j)).set y (.d (.int v))) = fO n (iF fun j => if j = y then v else g j) := by
  refine congrArg O.l (rng_set hy fun c hc => ?_)
  show O.d (.int (if c = y then v else g c)) = _
  by_cases q : c = y
  · rw [if_pos q, if_pos q]
  · rw [if_neg q, if_neg q]
    rfl
section
variable {n s t : Nat} {E : List Arc} {f : List Int} {F : List Nat}
theorem ascends_ok (asc : F.Pairwise (· < ·)) (lt : ∀ x ∈ F, x < n) : v_l_ascends [nD F, .int (n : Int)] = .ok (.d (.bl true)) := by
  have ks := n_seq (F := F)
  unfold v_l_ascends
  refine w_isP ?_
  generalize nD F = fd at *
  show W (cSeq _ _ [some (.d (fd)), some (.d (.int ((n : Int)))), none, none]) _ _ _ _
  refine t_set (o := .d (.int (-1))) (ω1 := [some (.d (fd)), some (.d (.int ((n : Int)))), none, none]) (ω2 := [some (.d (fd)), some (.d (.int ((n : Int)))), some (.d (.int (-1))), none]) (by simp [viewD_x]) (by simp only [List.set_cons_zero, List.set_cons_succ] <;> rfl) ?_
  refine w_seq (w_for (fun k : Nat => .one (.int (k : Int))) F (fun done ω => ∃ b : Int, ω = [some (.d (fd)), some (.d (.int ((n : Int)))), some (.d (.int (b))), none] ∧ (b = -1 ∨ ∃ y : Nat, y ∈ done ∧ b = (y : Int))) (ω0 := [some (.d (fd)), some (.d (.int ((n : Int)))), some (.d (.int (-1))), none]) (iSX_li (d := fd) (by simp) ks) ⟨-1, rfl, .inl rfl⟩ ?_ ?_)
  · rintro done x rest ω er ⟨b, rfl, hb⟩
    have xn := lt x (by rw [er]; simp)
    have bx : b < (x : Int) := by
      rcases hb with h | ⟨y, hy, h⟩
      · omega
      · rw [er, List.pairwise_append] at asc
        have := asc.2.2 y hy x (by simp)
        omega
    have h1 : ¬ (x : Int) ≤ b := by omega
    have h2 : ¬ (n : Int) ≤ (x : Int) := by omega
    refine ⟨[some (.d (fd)), some (.d (.int ((n : Int)))), some (.d (.int (b))), some (.d (.int ((x : Int))))], rfl, ?_⟩
    refine t_ifF (ω1 := [some (.d (fd)), some (.d (.int ((n : Int)))), some (.d (.int (b))), some (.d (.int ((x : Int))))]) ?_ (t_nx ?_)
    · have d1 : decide ((x : Int) ≤ b) = false := decide_eq_false h1
      have d2 : decide ((n : Int) ≤ (x : Int)) = false := decide_eq_false h2
      simp [h1]
      omega
    · exact t_set1 (o := .d (.int (x : Int))) (ω1 := [some (.d (fd)), some (.d (.int ((n : Int)))), some (.d (.int (b))), some (.d (.int ((x : Int))))]) (ω2 := [some (.d (fd)), some (.d (.int ((n : Int)))), some (.d (.int ((x : Int)))), some (.d (.int ((x : Int))))]) (by simp [viewD_x]) (by simp only [List.set_cons_zero, List.set_cons_succ] <;> rfl) ⟨(x : Int), rfl, .inr ⟨x, by simp, rfl⟩⟩
  · rintro ω ⟨b, rfl, _⟩
    exact t_ret (o := .d (.bl true)) (ω1 := [some (.d (fd)), some (.d (.int ((n : Int)))), some (.d (.int (b))), none]) (by simp) rfl
theorem l_flow_ok (hE : Fg.In n E) (hn : n ≤ 100) (hl : E.length ≤ 1000) (hs : s < n) (h : Flo n E s t f) : v_l_flow [.int (n : Int), arsD false E, .int (s : Int), .int (t : Int), flD f] = .ok (.d (.int (net E f s))) := by
  have ln := ars_len (c := false) (E := E)
  have fn : gLenA [flD f] = some (.d (.int (E.length : Int))) := by
    rw [← h.len]
    show some (O.d (.int ((f.map D.int).length : Int))) = _
    rw [List.length_map]
  have aix := fun (k : Nat) (h : k < E.length) => ars_ix (c := false) h
  have fix := fun (k : Nat) (hk : k < E.length) => f_ix (f := f) (k := k) (by have := h.len; omega)
  have kr := kRange1_m (j := (n : Int)) (inR_s (by omega) (by omega))
  have krE := kRange1_m (j := (E.length : Int)) (inR_s (by omega) (by omega))
  have lo := h.lo
  have hi := h.hi
  have bal := h.bal
  unfold v_l_flow
  refine w_isP ?_
  generalize arsD false E = ad at *
  generalize flD f = fd at *
  show W (cSeq _ _ [some (.d (.int ((n : Int)))), some (.d (ad)), some (.d (.int ((s : Int)))), some (.d (.int ((t : Int)))), some (.d (fd)), none, none, none]) _ _ _ _
  refine t_ifF (ω1 := [some (.d (.int ((n : Int)))), some (.d (ad)), some (.d (.int ((s : Int)))), some (.d (.int ((t : Int)))), some (.d (fd)), none, none, none]) (by simp [ln, fn]) (t_nx ?_)
  have hc := cComp_all (σ := viewD [some (.d (.int ((n : Int)))), some (.d (ad)), some (.d (.int ((s : Int)))), some (.d (.int ((t : Int)))), some (.d (fd)), none, none, none]) (g := VL.hN 6) (fi := iP kRange1 (VL.aCons (VL.cV 0) VL.aNil)) (f := oD (VL.cK (.int 0))) (vs := [6]) (xs := rangeL 0 (n : Int)) (fun i => .one (.int i)) (fun i => .d (.int 0)) (by simp [viewD_x, kr]) (by rw [rangeL_len]; omega) fun i hi => ⟨_, rfl, rfl⟩
  rw [rng_n, List.map_map] at hc
  refine t_set (o := fO n (iF fun _ => 0)) (ω1 := [some (.d (.int ((n : Int)))), some (.d (ad)), some (.d (.int ((s : Int)))), some (.d (.int ((t : Int)))), some (.d (fd)), none, none, none]) (ω2 := [some (.d (.int ((n : Int)))), some (.d (ad)), some (.d (.int ((s : Int)))), some (.d (.int ((t : Int)))), some (.d (fd)), some (fO n (iF (fun _ => 0))), none, none]) (by
    rw [loD_ap]
    exact (congrArg (fun z => liDR z [some (.d (.int ((n : Int)))), some (.d (ad)), some (.d (.int ((s : Int)))), some (.d (.int ((t : Int)))), some (.d (fd)), none, none, none]) hc).trans rfl) (by simp only [List.set_cons_zero, List.set_cons_succ] <;> rfl) ?_
  refine w_seq (w_for (fun i : Int => .one (.int i)) (rangeL 0 (E.length : Int)) (fun done ω => ω = [some (.d (.int ((n : Int)))), some (.d (ad)), some (.d (.int ((s : Int)))), some (.d (.int ((t : Int)))), some (.d (fd)), some (fO n (iF (fun z => Fg.sm done.length fun i => fl f i * sg E i z))), none, none]) (ω0 := [some (.d (.int ((n : Int)))), some (.d (ad)), some (.d (.int ((s : Int)))), some (.d (.int ((t : Int)))), some (.d (fd)), some (fO n (iF (fun _ => 0))), none, none]) (by simp [iX, viewD_x, viewD_fO, ln, krE]) rfl ?_ ?_)
  · rintro done x rest ω er rfl
    obtain ⟨hx, hlt⟩ := rangeL_split er
    have hl2 : (done ++ [x]).length = done.length + 1 := by simp
    rw [hl2]
    generalize done.length = m at *
    have hx : x = (m : Int) := by omega
    subst hx
    have mE : m < E.length := by omega
    obtain ⟨un, vn, _⟩ := hE.at mE
    have i0 := aix m mE
    have i1 := fix m mE
    have l0 := lo m mE
    have l1 := hi m mE
    have a0 : gIx (arD (arc E m)) (.int 0) = some (.d (.int ((arc E m).1 : Int))) := rfl
    have a1 : gIx (arD (arc E m)) (.int 1) = some (.d (.int ((arc E m).2.1 : Int))) := rfl
    have a2 : gIx (arD (arc E m)) (.int 2) = some (.d (.int (arc E m).2.2)) := rfl
    obtain ⟨g, hg⟩ : ∃ g : Nat → Int, g = fun z => Fg.sm m fun i => fl f i * sg E i z := ⟨_, rfl⟩
    have tot : (fun z => Fg.sm (m + 1) fun i => fl f i * sg E i z) = fun z => if z = (arc E m).2.1 then (if (arc E m).2.1 = (arc E m).1 then g (arc E m).1 + fl f m else g (arc E m).2.1) - fl f m else if z = (arc E m).1 then g (arc E m).1 + fl f m else g z := by
      funext z
      have gz : g z = Fg.sm m fun i => fl f i * sg E i z := by rw [hg]
      show (Fg.sm m fun i => fl f i * sg E i z) + fl f m * (is (arc E m).1 z - is (arc E m).2.1 z) = _
      rw [← gz]
      unfold is
      by_cases e1 : z = (arc E m).2.1 <;> by_cases e2 : z = (arc E m).1
      · rw [if_pos e1, if_pos e2.symm, if_pos e1.symm, if_pos (e1.symm.trans e2), ← e2]
        omega
      · rw [if_pos e1, if_neg (fun q => e2 q.symm), if_pos e1.symm, if_neg fun q => e2 (e1.trans q), ← e1]
        omega
      · rw [if_neg e1, if_pos e2, if_pos e2.symm, if_neg (fun q => e1 q.symm), ← e2]
        omega
      · rw [if_neg e1, if_neg e2, if_neg (fun q => e2 q.symm), if_neg fun q => e1 q.symm]
        omega
    rw [← hg]
    refine ⟨[some (.d (.int ((n : Int)))), some (.d (ad)), some (.d (.int ((s : Int)))), some (.d (.int ((t : Int)))), some (.d (fd)), some (fO n (iF (g))), none, some (.d (.int ((m : Int))))], rfl, ?_⟩
    have tot := (congrArg (fun g : Nat → Int => [some (.d (.int ((n : Int)))), some (.d (ad)), some (.d (.int ((s : Int)))), some (.d (.int ((t : Int)))), some (.d (fd)), some (fO n (iF (g))), none, none]) tot.symm)
    have tot : [some (.d (.int ((n : Int)))), some (.d (ad)), some (.d (.int ((s : Int)))), some (.d (.int ((t : Int)))), some (.d (fd)), some (fO n (iF (fun z => if z = (arc E m).2.1 then (if (arc E m).2.1 = (arc E m).1 then g (arc E m).1 + fl f m else g (arc E m).2.1) - fl f m else if z = (arc E m).1 then g (arc E m).1 + fl f m else g z))), none, none] = [some (.d (.int ((n : Int)))), some (.d (ad)), some (.d (.int ((s : Int)))), some (.d (.int ((t : Int)))), some (.d (fd)), some (fO n (iF (fun z => Fg.sm (m + 1) fun i => fl f i * sg E i z))), none, none] := tot
    refine W.imp (nx := fun ω => forget [7] ω = [some (.d (.int ((n : Int)))), some (.d (ad)), some (.d (.int ((s : Int)))), some (.d (.int ((t : Int)))), some (.d (fd)), some (fO n (iF (fun z => if z = (arc E m).2.1 then (if (arc E m).2.1 = (arc E m).1 then g (arc E m).1 + fl f m else g (arc E m).2.1) - fl f m else if z = (arc E m).1 then g (arc E m).1 + fl f m else g z))), none, none]) ?_ (fun ω hω => hω.trans tot) (fun _ z => z) (fun _ z => z) fun _ _ z => z
    clear tot hg
    have frg := fun g : Nat → Int => frz_fO (n := n) (f := iF g)
    have gix := fun (g : Nat → Int) (x : Nat) (hx : x < n) => fD_ix (n := n) (f := iF g) (x := (x : Int)) rfl hx
    generalize arD (arc E m) = xd at *
    generalize (arc E m).1 = u at *
    generalize (arc E m).2.1 = v at *
    generalize (arc E m).2.2 = cp at *
    generalize fl f m = q at *
    refine t_ifF (ω1 := [some (.d (.int ((n : Int)))), some (.d (ad)), some (.d (.int ((s : Int)))), some (.d (.int ((t : Int)))), some (.d (fd)), some (fO n (iF (g))), none, some (.d (.int ((m : Int))))]) (by
      generalize fO n (iF g) = go at *
      have h1 : ¬ q < 0 := by omega
      have h2 : ¬ cp < q := by omega
      simp [i0, i1, a2, h1]
      omega) (t_nx ?_)
    refine w_cut (fun ω => ω = [some (.d (.int ((n : Int)))), some (.d (ad)), some (.d (.int ((s : Int)))), some (.d (.int ((t : Int)))), some (.d (fd)), some (fO n (iF (fun j => if j = u then g u + q else g j))), none, some (.d (.int ((m : Int))))]) ?_ ?_
    · have fz := frg g
      have gu := gix g u un
      refine w_subV (.ok (ω := [some (.d (.int ((n : Int)))), some (.d (ad)), some (.d (.int ((s : Int)))), some (.d (.int ((t : Int)))), some (.d (fd)), some (fO n (iF (g))), none, some (.d (.int ((m : Int))))]) (a := .d (.int (g u + q))) ?_ ⟨u, (List.range n).map fun j => .d (iF g j), ?_, rfl, by rw [List.length_map, List.length_range]; exact un, ?_⟩)
      · have gu : gIx (fD n (iF g)) (.int (u : Int)) = some (O.d (.int (g u))) := gu
        generalize fD n (iF g) = gd at *
        generalize fO n (iF g) = go at *
        simp [fz, i0, i1, a0, gu]
      · generalize fO n (iF g) = go at *
        simp [i0, a0]
      · rw [fO_upd un]
        rfl
    · rintro ω rfl
      have gv : gIx (fD n (iF fun j => if j = u then g u + q else g j)) (.int (v : Int)) = some (O.d (.int (if v = u then g u + q else g v))) := gix (fun j => if j = u then g u + q else g j) v vn
      generalize (if v = u then g u + q else g v) = gvv at *
      have fz := frg fun j => if j = u then g u + q else g j
      refine w_subV (.ok (ω := [some (.d (.int ((n : Int)))), some (.d (ad)), some (.d (.int ((s : Int)))), some (.d (.int ((t : Int)))), some (.d (fd)), some (fO n (iF (fun j => if j = u then g u + q else g j))), none, some (.d (.int ((m : Int))))]) (a := .d (.int (gvv - q))) ?_ ⟨v, (List.range n).map fun j => .d (iF (fun j => if j = u then g u + q else g j) j), ?_, rfl, by rw [List.length_map, List.length_range]; exact vn, ?_⟩)
      · generalize (fun j => if j = u then g u + q else g j) = g1 at *
        generalize fD n (iF g1) = gd at *
        generalize fO n (iF g1) = go at *
        simp [fz, i0, i1, a1, gv]
      · generalize (fun j => if j = u then g u + q else g j) = g1 at *
        generalize fO n (iF g1) = go at *
        simp [i0, a1]
      · rw [fO_upd vn]
        rfl
  · rintro ω rfl
    rw [rangeL_len, show ((E.length : Int) - 0).toNat = E.length by omega]
    have e : (fun z => Fg.sm E.length fun i => fl f i * sg E i z) = net E f := rfl
    rw [e]
    have fz := frz_fO (n := n) (f := iF (net E f))
    have gix := fun (x : Nat) (hx : x < n) => fD_ix (n := n) (f := iF (net E f)) (x := (x : Int)) rfl hx
    refine w_seq (w_for (fun i : Int => .one (.int i)) (rangeL 0 (n : Int)) (fun done ω => ω = [some (.d (.int ((n : Int)))), some (.d (ad)), some (.d (.int ((s : Int)))), some (.d (.int ((t : Int)))), some (.d (fd)), some (fO n (iF (net E f))), none, none]) (ω0 := [some (.d (.int ((n : Int)))), some (.d (ad)), some (.d (.int ((s : Int)))), some (.d (.int ((t : Int)))), some (.d (fd)), some (fO n (iF (net E f))), none, none]) (by simp [iX, viewD_x, viewD_fO, kr]) rfl ?_ ?_)
    · rintro done x rest ω er rfl
      obtain ⟨hx, hlt⟩ := rangeL_split er
      generalize done.length = z at *
      have hx : x = (z : Int) := by omega
      subst hx
      have zn : z < n := by omega
      have g1 : gIx (fD n (iF (net E f))) (.int (z : Int)) = some (O.d (.int (net E f z))) := gix z zn
      have bz := bal z zn
      refine ⟨[some (.d (.int ((n : Int)))), some (.d (ad)), some (.d (.int ((s : Int)))), some (.d (.int ((t : Int)))), some (.d (fd)), some (fO n (iF (net E f))), some (.d (.int ((z : Int)))), none], rfl, t_if1 (b := false) (ω1 := [some (.d (.int ((n : Int)))), some (.d (ad)), some (.d (.int ((s : Int)))), some (.d (.int ((t : Int)))), some (.d (fd)), some (fO n (iF (net E f))), some (.d (.int ((z : Int)))), none]) ?_ (fun h => nomatch h) fun _ => w_nx rfl⟩
      generalize fD n (iF (net E f)) = gd at *
      generalize fO n (iF (net E f)) = go at *
      by_cases q1 : (z : Int) = (s : Int)
      · simp [q1]
      · by_cases q2 : (z : Int) = (t : Int)
        · simp [q1, q2]
        · have b0 := bz (fun e => q1 (by rw [e])) (fun e => q2 (by rw [e]))
          rw [b0] at g1
          simp [q1, q2, fz, g1]
    · rintro ω rfl
      have g1 : gIx (fD n (iF (net E f))) (.int (s : Int)) = some (O.d (.int (net E f s))) := gix s hs
      exact t_ret (o := .d (.int (net E f s))) (ω1 := [some (.d (.int ((n : Int)))), some (.d (ad)), some (.d (.int ((s : Int)))), some (.d (.int ((t : Int)))), some (.d (fd)), some (fO n (iF (net E f))), none, none]) (by
        generalize fD n (iF (net E f)) = gd at *
        generalize fO n (iF (net E f)) = go at *
        simp [fz, g1]) rfl
end
end Lw.Fo
namespace Lw.Fo
open PySem PySem.Spec PyProof.Rows L2 FL VL Fg
section
variable {n s t : Nat} {E : List Arc} {f : List Int} {F : List Nat}
theorem shows_ok (hE : Fg.In n E) (hn : n ≤ 100) (hl : E.length ≤ 1000) (hs : s < n) (h : Gre n E s t f F) : v_l_shows [.int (n : Int), arsD false E, .int (s : Int), .int (t : Int), .tup [.int (net E f s), flD f, nD F]] = .ok (.d (.bl true)) := by
  have aseq := ars_seq (c := false) (E := E)
  have wg := wholeL (i := net E f s)
  have w1 : v_l_wholes [flD f] = .ok (.d (.bl true)) := by rw [flD_q]; exact wholes_ok
  have w2 : v_l_wholes [nD F] = .ok (.d (.bl true)) := by rw [nD_q]; exact wholes_ok
  have asc := ascends_ok (n := n) h.asc h.lt
  have lf := l_flow_ok hE hn hl hs h.flo
  have sn := nin_k s F
  have tn := in_k t F
  rw [decide_eq_true h.sF] at sn
  rw [decide_eq_false h.tF] at tn
  have kin := fun i => in_k i F
  have knin := fun i => nin_k i F
  have isl : gIsi [.tup [.int (net E f s), flD f, nD F], .ty "tuple"] = some (.d (.bl true)) := rfl
  have t0 : gIx (.tup [.int (net E f s), flD f, nD F]) (.int 0) = some (.d (.int (net E f s))) := rfl
  have t1 : gIx (.tup [.int (net E f s), flD f, nD F]) (.int 1) = some (.d (flD f)) := rfl
  have t2 : gIx (.tup [.int (net E f s), flD f, nD F]) (.int 2) = some (.d (nD F)) := rfl
  have tl : gLenA [.tup [.int (net E f s), flD f, nD F]] = some (.d (.int 3)) := rfl
  have cut := h.cut
  generalize D.tup [.int (net E f s), flD f, nD F] = td at *
  generalize flD f = gd at *
  generalize nD F = fd at *
  generalize net E f s = am at *
  generalize arsD false E = ad at *
  unfold v_l_shows
  refine w_isP ?_
  show W (cSeq _ _ [some (.d (.int ((n : Int)))), some (.d (ad)), some (.d (.int ((s : Int)))), some (.d (.int ((t : Int)))), some (.d (td)), none, none, none, none]) _ _ _ _
  refine t_ifF (ω1 := [some (.d (.int ((n : Int)))), some (.d (ad)), some (.d (.int ((s : Int)))), some (.d (.int ((t : Int)))), some (.d (td)), none, none, none, none]) (by simp [isl, tl, t0, wg]) (t_nx ?_)
  refine t_ifF (ω1 := [some (.d (.int ((n : Int)))), some (.d (ad)), some (.d (.int ((s : Int)))), some (.d (.int ((t : Int)))), some (.d (td)), none, none, none, none]) (by simp [t1, t2, w1, w2]) (t_nx ?_)
  refine t_set (o := .d fd) (ω1 := [some (.d (.int ((n : Int)))), some (.d (ad)), some (.d (.int ((s : Int)))), some (.d (.int ((t : Int)))), some (.d (td)), none, none, none, none]) (ω2 := [some (.d (.int ((n : Int)))), some (.d (ad)), some (.d (.int ((s : Int)))), some (.d (.int ((t : Int)))), some (.d (td)), some (.d (fd)), none, none, none]) (by simp [viewD_x, t2]) (by simp only [List.set_cons_zero, List.set_cons_succ] <;> rfl) ?_
  refine t_ifF (ω1 := [some (.d (.int ((n : Int)))), some (.d (ad)), some (.d (.int ((s : Int)))), some (.d (.int ((t : Int)))), some (.d (td)), some (.d (fd)), none, none, none]) (by simp [asc, sn, tn]) (t_nx ?_)
  refine t_set (o := .d (.int 0)) (ω1 := [some (.d (.int ((n : Int)))), some (.d (ad)), some (.d (.int ((s : Int)))), some (.d (.int ((t : Int)))), some (.d (td)), some (.d (fd)), none, none, none]) (ω2 := [some (.d (.int ((n : Int)))), some (.d (ad)), some (.d (.int ((s : Int)))), some (.d (.int ((t : Int)))), some (.d (td)), some (.d (fd)), some (.d (.int (0))), none, none]) (by simp [viewD_x]) (by simp only [List.set_cons_zero, List.set_cons_succ] <;> rfl) ?_
  refine w_seq (w_for (fun a : Arc => .one (arD a)) E (fun done ω => ω = [some (.d (.int ((n : Int)))), some (.d (ad)), some (.d (.int ((s : Int)))), some (.d (.int ((t : Int)))), some (.d (td)), some (.d (fd)), some (.d (.int (across E F done.length))), none, none]) (ω0 := [some (.d (.int ((n : Int)))), some (.d (ad)), some (.d (.int ((s : Int)))), some (.d (.int ((t : Int)))), some (.d (td)), some (.d (fd)), some (.d (.int (0))), none, none]) (iSX_li (d := ad) (by simp) aseq) rfl ?_ ?_)
  · rintro done a rest ω er rfl
    have hl2 : (done ++ [a]).length = done.length + 1 := by simp
    rw [hl2]
    have ea : arc E done.length = a := by
      unfold arc
      rw [er, List.getElem?_append_right (Nat.le_refl _), Nat.sub_self]
      rfl
    have nx : across E F (done.length + 1) = across E F done.length + if a.1 ∈ F ∧ a.2.1 ∉ F then a.2.2 else 0 := by
      show Fg.sm _ _ + (if (arc E done.length).1 ∈ F ∧ (arc E done.length).2.1 ∉ F then (arc E done.length).2.2 else 0) = _
      rw [ea]
      rfl
    rw [nx]
    generalize across E F done.length = ac at *
    have k1 := kin a.1
    have k2 := knin a.2.1
    have a0 : gIx (arD a) (.int 0) = some (.d (.int (a.1 : Int))) := rfl
    have a1 : gIx (arD a) (.int 1) = some (.d (.int (a.2.1 : Int))) := rfl
    have a2 : gIx (arD a) (.int 2) = some (.d (.int a.2.2)) := rfl
    generalize arD a = xd at *
    obtain ⟨u, v, cp⟩ := a
    simp only at k1 k2 a0 a1 a2
    refine ⟨[some (.d (.int ((n : Int)))), some (.d (ad)), some (.d (.int ((s : Int)))), some (.d (.int ((t : Int)))), some (.d (td)), some (.d (fd)), some (.d (.int (ac))), some (.d (xd)), none], rfl, ?_⟩
    refine t_if1 (b := decide (u ∈ F) && !decide (v ∈ F)) (ω1 := [some (.d (.int ((n : Int)))), some (.d (ad)), some (.d (.int ((s : Int)))), some (.d (.int ((t : Int)))), some (.d (td)), some (.d (fd)), some (.d (.int (ac))), some (.d (xd)), none]) ?_ (fun hb => ?_) fun hb => w_nx ?_
    · generalize decide (u ∈ F) = b1 at *
      generalize decide (v ∈ F) = b2 at *
      cases b1 <;> cases b2 <;> simp [a0, a1, k1, k2]
    · obtain ⟨b1, b2⟩ := Bool.and_eq_true_iff.mp hb
      have b1 := of_decide_eq_true b1
      have b2 : v ∉ F := fun q => by rw [decide_eq_true q] at b2; cases b2
      rw [if_pos ⟨b1, b2⟩]
      exact t_set1 (o := .d (.int (ac + cp))) (ω1 := [some (.d (.int ((n : Int)))), some (.d (ad)), some (.d (.int ((s : Int)))), some (.d (.int ((t : Int)))), some (.d (td)), some (.d (fd)), some (.d (.int (ac))), some (.d (xd)), none]) (ω2 := [some (.d (.int ((n : Int)))), some (.d (ad)), some (.d (.int ((s : Int)))), some (.d (.int ((t : Int)))), some (.d (td)), some (.d (fd)), some (.d (.int ((ac + cp)))), some (.d (xd)), none]) (by simp [viewD_x, a2]) (by simp only [List.set_cons_zero, List.set_cons_succ] <;> rfl) rfl
    · have q : ¬ (u ∈ F ∧ v ∉ F) := fun q => by
        rw [decide_eq_true q.1, decide_eq_false q.2] at hb
        cases hb
      rw [if_neg q, Int.add_zero]
      rfl
  · rintro ω rfl
    rw [← cut]
    have isn : gIsN (.int am) .non = some (.d (.bl true)) := rfl
    refine t_set (o := .d (.int am)) (ω1 := [some (.d (.int ((n : Int)))), some (.d (ad)), some (.d (.int ((s : Int)))), some (.d (.int ((t : Int)))), some (.d (td)), some (.d (fd)), some (.d (.int (am))), none, none]) (ω2 := [some (.d (.int ((n : Int)))), some (.d (ad)), some (.d (.int ((s : Int)))), some (.d (.int ((t : Int)))), some (.d (td)), some (.d (fd)), some (.d (.int (am))), none, some (.d (.int (am)))]) (by simp [viewD_x, t1, lf]) (by simp only [List.set_cons_zero, List.set_cons_succ] <;> rfl) ?_
    exact t_ret (o := .d (.bl true)) (ω1 := [some (.d (.int ((n : Int)))), some (.d (ad)), some (.d (.int ((s : Int)))), some (.d (.int ((t : Int)))), some (.d (td)), some (.d (fd)), some (.d (.int (am))), none, some (.d (.int (am)))]) (by simp [viewD_x, t0, isn]) rfl
end
end Lw.Fo
namespace Lw.Fo
open PySem PySem.Spec PyProof.Rows L2 FL VL Fg
section
variable {ω : Om} {i : Nat} {s s' : Int × Int} {f : MFn} {pe pe' : PEF} {d d' : D} {o : O} {Q : O → Om → Prop}
theorem x_src1 (h : ω[i]? = some (some (srcO s))) (ha : pe (viewD ω) = .ok d) (e : f [srcO s, .d d] = .ok (o, [srcO s'])) (q : ∀ ω2, ω.set i (some (srcO s')) = ω2 → Q o ω2) : VL.WX (eCallM f 2 [0] (erS i (erD (liD pe) erNil)) ω) Q := by
  rw [eCallM_ap, erS_ap, h, erSK_s, erD_ap, liD_ap, ha, liDR_s, erDK_s, erNil_ap, erK2_s, erK2_s, callMK_s, takeA_s, h, takeK_s, takeA_d, takeA_n]
  refine ⟨?_⟩
  show WXz (callMK2 f 2 [0] _ (some ([srcO s, .d d], ω.set i none))) Q
  rw [callMK2_s, if_pos (by rfl), e, callMK3_s, putA_c]
  show WXz (.ok (_, putK (some (.s i)) _ _ _ _ _)) Q
  rw [putK_s, putA_n, List.set_set]
  exact q _ rfl
theorem x_src2 (h : ω[i]? = some (some (srcO s))) (ha : pe (viewD ω) = .ok d) (hb : pe' (viewD ω) = .ok d') (e : f [srcO s, .d d, .d d'] = .ok (o, [srcO s'])) (q : ∀ ω2, ω.set i (some (srcO s')) = ω2 → Q o ω2) : VL.WX (eCallM f 3 [0] (erS i (erD (liD pe) (erD (liD pe') erNil))) ω) Q := by
  rw [eCallM_ap, erS_ap, h, erSK_s, erD_ap, liD_ap, ha, liDR_s, erDK_s, erD_ap, liD_ap, hb, liDR_s, erDK_s, erNil_ap, erK2_s, erK2_s, erK2_s, callMK_s, takeA_s, h, takeK_s, takeA_d, takeA_d, takeA_n]
  refine ⟨?_⟩
  show WXz (callMK2 f 3 [0] _ (some ([srcO s, .d d, .d d'], ω.set i none))) Q
  rw [callMK2_s, if_pos (by rfl), e, callMK3_s, putA_c]
  show WXz (.ok (_, putK (some (.s i)) _ _ _ _ _)) Q
  rw [putK_s, putA_n, List.set_set]
  exact q _ rfl
end
theorem pow6 : gPow (.int 10) (.int 6) = some (.d (.int 1000000)) := by rw [cpow_s (by decide +kernel)]; rfl
def OkA (n : Nat) (a : Arc) : Prop := a.1 < n ∧ a.2.1 < n ∧ 0 ≤ a.2.2 ∧ a.2.2 ≤ 1000000
section
variable {s : Int × Int} {far : Bool} {n x b g : Nat}
theorem capacity_ok (s : Int × Int) (far : Bool) : ∃ (s' : Int × Int) (c : Int), v_l_capacity [srcO s, .d (.bl far)] = .ok (.d (.int c), [srcO s']) ∧ 0 ≤ c ∧ c ≤ 1000000 := by
  have main : ∃ o ps, v_l_capacity [srcO s, .d (.bl far)] = .ok (o, ps) ∧ ∃ (s' : Int × Int) (c : Int), o = .d (.int c) ∧ ps = [srcO s'] ∧ 0 ≤ c ∧ c ≤ 1000000 := by
    have p6 := pow6
    unfold v_l_capacity
    refine w_fnM ?_
    show W (cSeq _ _ [some (srcO s), some (.d (.bl far)), none]) _ _ _ _
    refine t_draw (s := s) (n := 4) (j := 0) rfl (by simp [viewD_x]) (by decide) (by decide) rfl fun kd s k0 k1 => ?_
    show W (cSeq _ _ [some (srcO s), some (.d (.bl far)), some (.d (.int (kd)))]) _ _ _ _
    refine w_cut (fun ω => ω = [some (srcO s), some (.d (.bl far)), some (.d (.int (kd)))]) ?_ ?_
    · refine t_if1 (b := far && decide (kd = 0)) (ω1 := [some (srcO s), some (.d (.bl far)), some (.d (.int (kd)))]) (by cases far <;> simp) (fun _ => ?_) fun _ => w_nx rfl
      refine w_ret (x_eoD (x_bin (x_liD (d := .int 1000000) (by simp [p6]) (x_evO (x_drawN (f := v_l_draw) rfl (s := s) (n := 2) rfl (by simp [viewD_x]) (by decide) (by decide) fun q s3 w3 q0 q1 hw3 => ⟨.d (.int (1000000 - q)), by rw [frz_d']; rfl, [srcO s3], by rw [← hw3]; rfl, s3, 1000000 - q, by rw [frz_d'], rfl, by omega, by omega⟩)))))
    rintro ω rfl
    refine w_cut (fun ω => ω = [some (srcO s), some (.d (.bl far)), some (.d (.int (kd)))]) ?_ ?_
    · refine t_if1 (b := far && decide (kd < 3)) (ω1 := [some (srcO s), some (.d (.bl far)), some (.d (.int (kd)))]) (by cases far <;> simp) (fun _ => ?_) fun _ => w_nx rfl
      refine w_ret (x_drawN (f := v_l_draw) rfl (s := s) (n := 1000001) rfl (by simp [viewD_x, p6]) (by decide) (by decide) fun q s3 w3 q0 q1 hw3 => ⟨[srcO s3], by rw [← hw3]; rfl, s3, q, rfl, rfl, by omega, by omega⟩)
    rintro ω rfl
    exact w_ret (x_drawN (f := v_l_draw) rfl (s := s) (n := 7) rfl (by simp [viewD_x]) (by decide) (by decide) fun q s3 w3 q0 q1 hw3 => ⟨[srcO s3], by rw [← hw3]; rfl, s3, q, rfl, rfl, by omega, by omega⟩)
  obtain ⟨o, ps, e, s', c, rfl, rfl, c0, c1⟩ := main
  exact ⟨s', c, e, c0, c1⟩
theorem other_ok (s : Int × Int) (hx : x < n) (n2 : 2 ≤ n) (hn : n ≤ 100) : ∃ (s' : Int × Int) (y : Nat), v_l_other [srcO s, .d (.int (x : Int)), .d (.int (n : Int))] = .ok (.d (.int (y : Int)), [srcO s']) ∧ y < n ∧ y ≠ x := by
  have main : ∃ o ps, v_l_other [srcO s, .d (.int (x : Int)), .d (.int (n : Int))] = .ok (o, ps) ∧ ∃ (s' : Int × Int) (y : Nat), o = .d (.int (y : Int)) ∧ ps = [srcO s'] ∧ y < n ∧ y ≠ x := by
    unfold v_l_other
    refine w_fnM ?_
    show W (VL.cRet _ [some (srcO s), some (.d (.int ((x : Int)))), some (.d (.int ((n : Int))))]) _ _ _ _
    refine w_ret (x_eoD (x_bin (x_evO (x_cb (x_acons (x_bin (x_liD (d := .int ((x : Int) + 1)) (by simp) (x_evO (x_drawN (f := v_l_draw) rfl (s := s) (n := (n : Int) - 1) rfl (by simp) (by omega) (by omega) fun q s3 w3 q0 q1 hw3 => ⟨.d (.int ((x : Int) + 1 + q)), by rw [frz_d']; rfl, x_anil ⟨.d (.int ((x : Int) + 1 + q)), by rw [frz_d']; rfl, x_liD (d := .int (n : Int)) (by rw [← hw3]; rfl) ⟨.d (.int (((x : Int) + 1 + q) % (n : Int))), by rw [frz_d']; exact gMod_s (by omega), [srcO s3], by rw [← hw3]; rfl, s3, (((x : Int) + 1 + q) % (n : Int)).toNat, ?_, rfl, ?_, ?_⟩⟩⟩)))))))))
    · have := Int.emod_nonneg ((x : Int) + 1 + q) (show (n : Int) ≠ 0 by omega)
      rw [frz_d', show (((((x : Int) + 1 + q) % (n : Int)).toNat : Nat) : Int) = ((x : Int) + 1 + q) % (n : Int) by omega]
    · have := Int.emod_lt_of_pos ((x : Int) + 1 + q) (show (0 : Int) < (n : Int) by omega)
      have := Int.emod_nonneg ((x : Int) + 1 + q) (show (n : Int) ≠ 0 by omega)
      omega
    · have nn := Int.emod_nonneg ((x : Int) + 1 + q) (show (n : Int) ≠ 0 by omega)
      intro e
      have e : ((x : Int) + 1 + q) % (n : Int) = (x : Int) := by omega
      rcases Int.lt_or_le ((x : Int) + 1 + q) (n : Int) with z | z
      · rw [Int.emod_eq_of_lt (by omega) z] at e
        omega
      · rw [← Int.sub_emod_right, Int.emod_eq_of_lt (by omega) (by omega)] at e
        omega
  obtain ⟨o, ps, e, s', y, rfl, rfl, y0, y1⟩ := main
  exact ⟨s', y, e, y0, y1⟩
end
end Lw.Fo
namespace Lw.Fo
open PySem PySem.Spec PyProof.Rows L2 FL VL Fg
theorem cut_from {α : Type} (l : List α) (t : Nat) : cutG l (some (t : Int)) none = l.drop t := by
  show (l.drop (HT.sIx l.length 0 (some (t : Int)))).take (HT.sIx l.length l.length none - HT.sIx l.length 0 (some (t : Int))) = _
  rw [HT.sIx_none, HT.sIx_nat]
  rcases Nat.lt_or_ge t l.length with h | h
  · rw [Nat.min_eq_left (by omega), List.take_of_length_le (by rw [List.length_drop]; exact Nat.le_refl _)]
  · rw [Nat.min_eq_right h, List.drop_length, List.take_nil, List.drop_of_length_le h]
theorem cut_to {α : Type} (l : List α) (t : Nat) : cutG l none (some (t : Int)) = l.take t := by
  show (l.drop (HT.sIx l.length 0 none)).take (HT.sIx l.length l.length (some (t : Int)) - HT.sIx l.length 0 none) = _
  rw [HT.sIx_none, HT.sIx_nat, List.drop_zero]
  rcases Nat.lt_or_ge t l.length with h | h
  · rw [Nat.min_eq_left (by omega), Nat.sub_zero]
  · rw [Nat.min_eq_right h, Nat.sub_zero, List.take_length, List.take_of_length_le h]
theorem rot_mem {α : Type} {B : List α} {t : Nat} {a : α} (h : a ∈ B.drop t ++ B.take t) : a ∈ B := by
  rcases List.mem_append.mp h with q | q
  · exact List.mem_of_mem_drop q
  · exact List.mem_of_mem_take q
theorem rot_len {α : Type} {B : List α} {t : Nat} : (B.drop t ++ B.take t).length = B.length := by
  rw [List.length_append, List.length_drop, List.length_take]
  omega
def prD (p : Nat × Nat) : D := .tup [.int (p.1 : Int), .int (p.2 : Int)]
theorem e_add {a b : List D} {o : List D} (h : a.length + b.length ≤ 100000) (e : a ++ b = o) : gAdd (.lst a) (.lst b) = some (.l (o.map .d)) := by rw [gAdd_l h, e]
section
variable {far : Bool} {n b g : Nat}
theorem exchange_ok (s : Int × Int) (hb : b < n) (hg : g < n) (n6 : 6 ≤ n) (hn : n ≤ 100) : ∃ (s' : Int × Int) (E : List Arc), v_l_exchange [srcO s, .d (.int (n : Int)), .d (.int (b : Int)), .d (.int (g : Int)), .d (.bl far)] = .ok (.l (E.map fun a => .d (arD a)), [srcO s']) ∧ E.length = 7 ∧ ∀ a ∈ E, OkA n a := by
  have main : ∃ o ps, v_l_exchange [srcO s, .d (.int (n : Int)), .d (.int (b : Int)), .d (.int (g : Int)), .d (.bl far)] = .ok (o, ps) ∧ ∃ (s' : Int × Int) (E : List Arc), o = .l (E.map fun a => .d (arD a)) ∧ ps = [srcO s'] ∧ E.length = 7 ∧ ∀ a ∈ E, OkA n a := by
    have kr := kRange1_m (j := (n : Int)) (inR_s (by omega) (by omega))
    unfold v_l_exchange
    refine w_fnM ?_
    show W (cSeq _ _ [some (srcO s), some (.d (.int ((n : Int)))), some (.d (.int ((b : Int)))), some (.d (.int ((g : Int)))), some (.d (.bl far)), none, none, none, none, none, none]) _ _ _ _
    have hc := cComp_eq (σ := viewD [some (srcO s), some (.d (.int ((n : Int)))), some (.d (.int ((b : Int)))), some (.d (.int ((g : Int)))), some (.d (.bl far)), none, none, none, none, none, none]) (g := VL.hN 6) (fi := iP kRange1 (VL.aCons (VL.cV 1) VL.aNil)) (c := VL.cAnd (VL.cB (VL.cBin gNe (VL.cV 6) (VL.cV 2))) (VL.cB (VL.cBin gNe (VL.cV 6) (VL.cV 3)))) (f := oD (VL.cV 6)) (vs := [6]) (xs := List.range n) (fun z => .one (.int (z : Int))) (fun z => !decide (z = b) && !decide (z = g)) (fun z => .d (.int (z : Int))) (by
      rw [show (List.range n).map (fun z : Nat => ItD.one (.int (z : Int))) = (rangeL 0 (n : Int)).map fun i => .one (.int i) by rw [rng_n, List.map_map]; rfl]
      simp [viewD_x, kr]) (by rw [List.length_range]; omega) fun z hz => ⟨viewD [some (srcO s), some (.d (.int ((n : Int)))), some (.d (.int ((b : Int)))), some (.d (.int ((g : Int)))), some (.d (.bl far)), none, some (.d (.int ((z : Int)))), none, none, none, none], rfl, by
        have e1 : decide ((z : Int) = (b : Int)) = decide (z = b) := decide_eq_decide.mpr (by omega)
        have e2 : decide ((z : Int) = (g : Int)) = decide (z = g) := decide_eq_decide.mpr (by omega)
        rw [← e1, ← e2]
        by_cases h1 : (z : Int) = (b : Int) <;> by_cases h2 : (z : Int) = (g : Int) <;> simp [viewD_x, h1, h2], fun _ => by simp [viewD_x]⟩
    obtain ⟨I, hI⟩ : ∃ I, I = (List.range n).filter fun z => !decide (z = b) && !decide (z = g) := ⟨_, rfl⟩
    rw [← hI] at hc
    have hc : _ = VL.R.ok (nO I) := hc
    have il : 4 ≤ I.length := by
      have := nd_len (L := List.range n) (R := b :: g :: I) List.nodup_range fun x hx => by
        by_cases h1 : x = b
        · rw [h1]; simp
        · by_cases h2 : x = g
          · rw [h2]; simp
          · rw [hI]
            simp only [List.mem_cons, List.mem_filter]
            exact .inr (.inr ⟨hx, by simp [h1, h2]⟩)
      rw [List.length_range, List.length_cons, List.length_cons] at this
      omega
    have iu : I.length ≤ n := by
      rw [hI]
      refine Nat.le_trans (List.length_filter_le _ _) ?_
      rw [List.length_range]
      exact Nat.le_refl _
    have im : ∀ x ∈ I, x < n := fun x hx => by
      rw [hI] at hx
      exact List.mem_range.mp (List.mem_filter.mp hx).1
    clear hI
    have fI := frz_n (F := I)
    refine t_set (o := .d (nD I)) (ω1 := [some (srcO s), some (.d (.int ((n : Int)))), some (.d (.int ((b : Int)))), some (.d (.int ((g : Int)))), some (.d (.bl far)), none, none, none, none, none, none]) (ω2 := [some (srcO s), some (.d (.int ((n : Int)))), some (.d (.int ((b : Int)))), some (.d (.int ((g : Int)))), some (.d (.bl far)), some (.d (nD I)), none, none, none, none, none]) (by
      rw [eoD_ap, evO_ap, loD_ap, hc]
      show VL.R.ok (O.d (frz _), _) = _
      rw [fI]) (by simp only [List.set_cons_zero, List.set_cons_succ] <;> rfl) ?_
    clear hc
    have lnI := n_len (F := I)
    refine w_cut (fun ω => ∃ (s : Int × Int) (t : Nat), ω = [some (srcO s), some (.d (.int ((n : Int)))), some (.d (.int ((b : Int)))), some (.d (.int ((g : Int)))), some (.d (.bl far)), some (.d (nD I)), none, some (.d (.int ((t : Int)))), none, none, none] ∧ t ≤ I.length) ?_ ?_
    · generalize nD I = id at *
      refine w_setN (x_eoD (x_evO (x_drawN (f := v_l_draw) rfl (s := s) (n := (I.length : Int)) rfl (by simp [viewD_x, lnI]) (by omega) (by omega) fun r s3 w3 t0 t1 hw3 w hw => ⟨s3, r.toNat, ?_, by omega⟩)))
      rw [← hw, ← hw3, show ((r.toNat : Nat) : Int) = r by omega, frz_d']
      rfl
    rintro ω ⟨s, t, rfl, ht⟩
    have eI : nD I = .lst (I.map fun k : Nat => .int (k : Int)) := rfl
    have sl1 : (slR (.ok (nD I)) (.ok (some (t : Int))) (.ok none)).map frz = .ok (.lst ((I.map fun k : Nat => D.int (k : Int)).drop t)) := by
      rw [eI, slR_l, cut_from, rmap_ok, frz_ld]
    have sl2 : (slR (.ok (nD I)) (.ok none) (.ok (some (t : Int)))).map frz = .ok (.lst ((I.map fun k : Nat => D.int (k : Int)).take t)) := by
      rw [eI, slR_l, cut_to, rmap_ok, frz_ld]
    have jl : 4 ≤ (I.drop t ++ I.take t).length := by rw [rot_len]; exact il
    have jm : ∀ x ∈ I.drop t ++ I.take t, x < n := fun x hx => im x (rot_mem hx)
    refine t_set (o := .d (nD (I.drop t ++ I.take t))) (ω1 := [some (srcO s), some (.d (.int ((n : Int)))), some (.d (.int ((b : Int)))), some (.d (.int ((g : Int)))), some (.d (.bl far)), some (.d (nD I)), none, some (.d (.int ((t : Int)))), none, none, none]) (ω2 := [some (srcO s), some (.d (.int ((n : Int)))), some (.d (.int ((b : Int)))), some (.d (.int ((g : Int)))), some (.d (.bl far)), some (.d (nD (I.drop t ++ I.take t))), none, some (.d (.int ((t : Int)))), none, none, none]) ?_ (by simp only [List.set_cons_zero, List.set_cons_succ] <;> rfl) ?_
    · have ea : gAdd (.lst ((I.map fun k : Nat => D.int (k : Int)).drop t)) (.lst ((I.map fun k : Nat => D.int (k : Int)).take t)) = some (nO (I.drop t ++ I.take t)) := by
        rw [gAdd_l (by rw [List.length_drop, List.length_take, List.length_map]; omega), ← List.map_drop, ← List.map_take, ← List.map_append, List.map_map]
        rfl
      rw [eoD_ap, liD_ap]
      show eoDR (liDR (binR gAdd ((slR (.ok (nD I)) (partR (.ok (.int (t : Int)))) (.ok none)).map frz) ((slR (.ok (nD I)) (.ok none) (partR (.ok (.int (t : Int))))).map frz)) _) = _
      rw [partR_s, sl1, sl2, binR_s, ea]
      show eoDR (liDR (.ok (frz _)) _) = _
      rw [frz_n]
      rfl
    clear sl1 sl2 eI
    generalize I.drop t ++ I.take t = J at *
    generalize (t : Int) = tn
    obtain ⟨j0, j1, j2, j3, J', rfl⟩ : ∃ j0 j1 j2 j3 J', J = j0 :: j1 :: j2 :: j3 :: J' := by
      match J, jl with
      | j0 :: j1 :: j2 :: j3 :: J', _ => exact ⟨j0, j1, j2, j3, J', rfl⟩
    have k0 : gIx (nD (j0 :: j1 :: j2 :: j3 :: J')) (.int 0) = some (.d (.int (j0 : Int))) := n_ix (i := 0) rfl
    have k1 : gIx (nD (j0 :: j1 :: j2 :: j3 :: J')) (.int 1) = some (.d (.int (j1 : Int))) := n_ix (i := 1) rfl
    have k2 : gIx (nD (j0 :: j1 :: j2 :: j3 :: J')) (.int 2) = some (.d (.int (j2 : Int))) := n_ix (i := 2) rfl
    have k3 : gIx (nD (j0 :: j1 :: j2 :: j3 :: J')) (.int 3) = some (.d (.int (j3 : Int))) := n_ix (i := 3) rfl
    have j0n := jm j0 (by simp)
    have j1n := jm j1 (by simp)
    have j2n := jm j2 (by simp)
    have j3n := jm j3 (by simp)
    generalize nD (j0 :: j1 :: j2 :: j3 :: J') = jd at *
    refine w_cut (fun ω => ∃ (s : Int × Int) (r : Int), ω = [some (srcO s), some (.d (.int ((n : Int)))), some (.d (.int ((b : Int)))), some (.d (.int ((g : Int)))), some (.d (.bl far)), some (.d (jd)), none, some (.d (.int (tn))), some (.d (.int (r))), none, none] ∧ 0 ≤ r ∧ r ≤ 1000000) ?_ ?_
    · obtain ⟨s', c, ec, c0, c1⟩ := capacity_ok s far
      refine w_setN (x_eoD (x_evO (x_cb (x_acons (x_liD (d := .int 1) (by simp) (x_acons (x_evO (x_src1 (s := s) (d := .bl far) rfl (by simp [viewD_x]) ec fun w3 hw3 => x_anil ⟨.d (.int (if (1 : Int) < c then c else 1)), by rw [frz_d']; simp, fun w hw => ⟨s', if (1 : Int) < c then c else 1, ?_, by split <;> omega, by split <;> omega⟩⟩))))))))
      rw [← hw, ← hw3, frz_d']
      rfl
    rintro ω ⟨s, r, rfl, r0, r1⟩
    refine t_set (o := .d (.lst [prD (b, j0), prD (j0, j1), prD (j1, g), prD (j0, j2)])) (ω1 := [some (srcO s), some (.d (.int ((n : Int)))), some (.d (.int ((b : Int)))), some (.d (.int ((g : Int)))), some (.d (.bl far)), some (.d (jd)), none, some (.d (.int (tn))), some (.d (.int (r))), none, none]) (ω2 := [some (srcO s), some (.d (.int ((n : Int)))), some (.d (.int ((b : Int)))), some (.d (.int ((g : Int)))), some (.d (.bl far)), some (.d (jd)), none, some (.d (.int (tn))), some (.d (.int (r))), some (.d (.lst [prD (b, j0), prD (j0, j1), prD (j1, g), prD (j0, j2)])), none]) (by simp [viewD_x, k0, k1, k2, prD]) (by simp only [List.set_cons_zero, List.set_cons_succ] <;> rfl) ?_
    have ga : gAdd (.lst [prD (b, j0), prD (j0, j1), prD (j1, g), prD (j0, j2)]) (.lst [.tup [.int (j2 : Int), .int (g : Int)], .tup [.int (b : Int), .int (j3 : Int)], .tup [.int (j3 : Int), .int (j1 : Int)]]) = some (.l ([prD (b, j0), prD (j0, j1), prD (j1, g), prD (j0, j2), prD (j2, g), prD (b, j3), prD (j3, j1)].map .d)) := e_add (by simp) rfl
    refine t_set (o := .d (.lst [prD (b, j0), prD (j0, j1), prD (j1, g), prD (j0, j2), prD (j2, g), prD (b, j3), prD (j3, j1)])) (ω1 := [some (srcO s), some (.d (.int ((n : Int)))), some (.d (.int ((b : Int)))), some (.d (.int ((g : Int)))), some (.d (.bl far)), some (.d (jd)), none, some (.d (.int (tn))), some (.d (.int (r))), some (.d (.lst [prD (b, j0), prD (j0, j1), prD (j1, g), prD (j0, j2)])), none]) (ω2 := [some (srcO s), some (.d (.int ((n : Int)))), some (.d (.int ((b : Int)))), some (.d (.int ((g : Int)))), some (.d (.bl far)), some (.d (jd)), none, some (.d (.int (tn))), some (.d (.int (r))), some (.d (.lst [prD (b, j0), prD (j0, j1), prD (j1, g), prD (j0, j2), prD (j2, g), prD (b, j3), prD (j3, j1)])), none]) (by
      have fo : VL.fo (some (O.l ([prD (b, j0), prD (j0, j1), prD (j1, g), prD (j0, j2), prD (j2, g), prD (b, j3), prD (j3, j1)].map .d))) = .ok (.lst [prD (b, j0), prD (j0, j1), prD (j1, g), prD (j0, j2), prD (j2, g), prD (b, j3), prD (j3, j1)]) := fo_l
      generalize D.lst [prD (b, j0), prD (j0, j1), prD (j1, g), prD (j0, j2), prD (j2, g), prD (b, j3), prD (j3, j1)] = o2 at *
      generalize O.l ([prD (b, j0), prD (j0, j1), prD (j1, g), prD (j0, j2), prD (j2, g), prD (b, j3), prD (j3, j1)].map .d) = o1 at *
      generalize D.lst [prD (b, j0), prD (j0, j1), prD (j1, g), prD (j0, j2)] = o3 at *
      simp [viewD_x, k1, k2, k3, ga, fo]) (by simp only [List.set_cons_zero, List.set_cons_succ] <;> rfl) ?_
    have pm : ∀ p ∈ [(b, j0), (j0, j1), (j1, g), (j0, j2), (j2, g), (b, j3), (j3, j1)], p.1 < n ∧ p.2 < n := fun p hp => by
      simp only [List.mem_cons, List.not_mem_nil, or_false] at hp
      rcases hp with rfl | rfl | rfl | rfl | rfl | rfl | rfl
      · exact ⟨hb, j0n⟩
      · exact ⟨j0n, j1n⟩
      · exact ⟨j1n, hg⟩
      · exact ⟨j0n, j2n⟩
      · exact ⟨j2n, hg⟩
      · exact ⟨hb, j3n⟩
      · exact ⟨j3n, j1n⟩
    have pl : [(b, j0), (j0, j1), (j1, g), (j0, j2), (j2, g), (b, j3), (j3, j1)].length = 7 := rfl
    have ep : D.lst [prD (b, j0), prD (j0, j1), prD (j1, g), prD (j0, j2), prD (j2, g), prD (b, j3), prD (j3, j1)] = .lst ([(b, j0), (j0, j1), (j1, g), (j0, j2), (j2, g), (b, j3), (j3, j1)].map prD) := rfl
    rw [ep]
    generalize [(b, j0), (j0, j1), (j1, g), (j0, j2), (j2, g), (b, j3), (j3, j1)] = P at *
    have kP : kSeq [.lst (P.map prD)] = some (P.map fun p => .one (prD p)) := kSeq_m
    generalize D.lst (P.map prD) = pd at *
    have hc := cComp_all (σ := viewD [some (srcO s), some (.d (.int ((n : Int)))), some (.d (.int ((b : Int)))), some (.d (.int ((g : Int)))), some (.d (.bl far)), some (.d (jd)), none, some (.d (.int (tn))), some (.d (.int (r))), some (.d (pd)), none]) (g := VL.hN 10) (fi := iS (VL.cV 9)) (f := oD (VL.cTup (VL.aCons (VL.cBin gIx (VL.cV 10) (VL.cK (.int 0))) (VL.aCons (VL.cBin gIx (VL.cV 10) (VL.cK (.int 1))) (VL.aCons (VL.cV 8) VL.aNil))))) (vs := [10]) (xs := P) (fun p => .one (prD p)) (fun p => .d (arD (p.1, p.2, r))) (by simp [viewD_x, iS, kP]) (by omega) fun p hp => ⟨viewD [some (srcO s), some (.d (.int ((n : Int)))), some (.d (.int ((b : Int)))), some (.d (.int ((g : Int)))), some (.d (.bl far)), some (.d (jd)), none, some (.d (.int (tn))), some (.d (.int (r))), some (.d (pd)), some (.d (prD p))], rfl, by
      have p0 : gIx (prD p) (.int 0) = some (.d (.int (p.1 : Int))) := rfl
      have p1 : gIx (prD p) (.int 1) = some (.d (.int (p.2 : Int))) := rfl
      generalize prD p = xd at *
      simp [viewD_x, p0, p1, arD]⟩
    refine t_ret (o := .l ((P.map fun p => (p.1, p.2, r)).map fun a => .d (arD a))) (ω1 := [some (srcO s), some (.d (.int ((n : Int)))), some (.d (.int ((b : Int)))), some (.d (.int ((g : Int)))), some (.d (.bl far)), some (.d (jd)), none, some (.d (.int (tn))), some (.d (.int (r))), some (.d (pd)), none]) (by rw [loD_ap, hc, List.map_map]; rfl) ⟨[srcO s], rfl, s, P.map fun p => (p.1, p.2, r), rfl, rfl, by rw [List.length_map]; exact pl, fun a ha => ?_⟩
    obtain ⟨p, hp, rfl⟩ := List.mem_map.mp ha
    exact ⟨(pm p hp).1, (pm p hp).2, r0, r1⟩
  obtain ⟨o, ps, e, s', E, rfl, rfl, h1, h2⟩ := main
  exact ⟨s', E, e, h1, h2⟩
end
end Lw.Fo
namespace Lw.Fo
open PySem PySem.Spec PyProof.Rows L2 FL VL Fg
section
variable {far : Bool} {n b g : Nat}
theorem viewD_ar {A : List Arc} {ω : Om} : viewD (some (.l (A.map fun a => .d (arD a))) :: ω) = none :: viewD ω := rfl
theorem ways_ok (s : Int × Int) (hb : b < n) (hg : g < n) (n2 : 2 ≤ n) (hn : n ≤ 100) : ∃ (s' : Int × Int) (E : List Arc), v_l_ways [srcO s, .d (.int (n : Int)), .d (.int (b : Int)), .d (.int (g : Int)), .d (.bl far)] = .ok (.l (E.map fun a => .d (arD a)), [srcO s']) ∧ E.length ≤ 12 ∧ ∀ a ∈ E, OkA n a := by
  have main : ∃ o ps, v_l_ways [srcO s, .d (.int (n : Int)), .d (.int (b : Int)), .d (.int (g : Int)), .d (.bl far)] = .ok (o, ps) ∧ ∃ (s' : Int × Int) (E : List Arc), o = .l (E.map fun a => .d (arD a)) ∧ ps = [srcO s'] ∧ E.length ≤ 12 ∧ ∀ a ∈ E, OkA n a := by
    unfold v_l_ways
    refine w_fnM ?_
    show W (cSeq _ _ [some (srcO s), some (.d (.int ((n : Int)))), some (.d (.int ((b : Int)))), some (.d (.int ((g : Int)))), some (.d (.bl far)), none, none, none, none, none]) _ _ _ _
    refine t_set (o := .l []) (ω1 := [some (srcO s), some (.d (.int ((n : Int)))), some (.d (.int ((b : Int)))), some (.d (.int ((g : Int)))), some (.d (.bl far)), none, none, none, none, none]) (ω2 := [some (srcO s), some (.d (.int ((n : Int)))), some (.d (.int ((b : Int)))), some (.d (.int ((g : Int)))), some (.d (.bl far)), some (.l ((([] : List Arc)).map fun a => .d (arD a))), none, none, none, none]) (by simp) (by simp only [List.set_cons_zero, List.set_cons_succ] <;> rfl) ?_
    refine w_cut (fun ω => ∃ (s : Int × Int) (A : List Arc), ω = [some (srcO s), some (.d (.int ((n : Int)))), some (.d (.int ((b : Int)))), some (.d (.int ((g : Int)))), some (.d (.bl far)), some (.l ((A).map fun a => .d (arD a))), none, none, none, none] ∧ (∀ a ∈ A, OkA n a) ∧ A.length ≤ 12) ?_ ?_
    · refine w_forX (x_iX1 (x_evO (x_drawN (f := v_l_draw) rfl (s := s) (n := 4) rfl (by simp [viewD_x]) (by decide) (by decide) fun q s3 w3 q0 q1 hw3 => ⟨(rangeL 0 q).map fun i => .one (.int i), by rw [frz_d']; exact kRange1_m (inR_s (by omega) (by omega)), ?_⟩)))
      rw [← hw3]
      refine w_for (fun i : Int => .one (.int i)) (rangeL 0 q) (fun done ω => ∃ (s : Int × Int) (A : List Arc), ω = [some (srcO s), some (.d (.int ((n : Int)))), some (.d (.int ((b : Int)))), some (.d (.int ((g : Int)))), some (.d (.bl far)), some (.l ((A).map fun a => .d (arD a))), none, none, none, none] ∧ (∀ a ∈ A, OkA n a) ∧ A.length ≤ 4 * done.length) rfl ⟨s3, [], rfl, fun a ha => (by cases ha), Nat.le_refl _⟩ ?_ ?_
      · rintro done x rest ω er ⟨s, A, rfl, hA, al⟩
        obtain ⟨hx, hlt⟩ := rangeL_split er
        have hl2 : (done ++ [x]).length = done.length + 1 := by simp
        rw [hl2]
        have d3 : done.length < 3 := by omega
        generalize done.length = k at *
        refine ⟨[some (srcO s), some (.d (.int ((n : Int)))), some (.d (.int ((b : Int)))), some (.d (.int ((g : Int)))), some (.d (.bl far)), some (.l ((A).map fun a => .d (arD a))), some (.d (.int (x))), none, none, none], rfl, ?_⟩
        refine t_set (o := .d (.int (b : Int))) (ω1 := [some (srcO s), some (.d (.int ((n : Int)))), some (.d (.int ((b : Int)))), some (.d (.int ((g : Int)))), some (.d (.bl far)), some (.l ((A).map fun a => .d (arD a))), some (.d (.int (x))), none, none, none]) (ω2 := [some (srcO s), some (.d (.int ((n : Int)))), some (.d (.int ((b : Int)))), some (.d (.int ((g : Int)))), some (.d (.bl far)), some (.l ((A).map fun a => .d (arD a))), some (.d (.int (x))), some (.d (.int ((b : Int)))), none, none]) (by simp [viewD_x]) (by simp only [List.set_cons_zero, List.set_cons_succ] <;> rfl) ?_
        refine w_cut (fun ω => ∃ (s : Int × Int) (A : List Arc) (h : Nat), ω = [some (srcO s), some (.d (.int ((n : Int)))), some (.d (.int ((b : Int)))), some (.d (.int ((g : Int)))), some (.d (.bl far)), some (.l ((A).map fun a => .d (arD a))), some (.d (.int (x))), some (.d (.int ((h : Int)))), none, none] ∧ (∀ a ∈ A, OkA n a) ∧ A.length ≤ 4 * k + 3 ∧ h < n) ?_ ?_
        · refine w_forX (x_iX1 (x_evO (x_drawN (f := v_l_draw) rfl (s := s) (n := 4) rfl (by simp [viewD_x]) (by decide) (by decide) fun r s4 w4 r0 r1 hw4 => ⟨(rangeL 0 r).map fun i => .one (.int i), by rw [frz_d']; exact kRange1_m (inR_s (by omega) (by omega)), ?_⟩)))
          rw [← hw4]
          refine w_for (fun i : Int => .one (.int i)) (rangeL 0 r) (fun done ω => ∃ (s : Int × Int) (A : List Arc) (h : Nat), ω = [some (srcO s), some (.d (.int ((n : Int)))), some (.d (.int ((b : Int)))), some (.d (.int ((g : Int)))), some (.d (.bl far)), some (.l ((A).map fun a => .d (arD a))), some (.d (.int (x))), some (.d (.int ((h : Int)))), none, none] ∧ (∀ a ∈ A, OkA n a) ∧ A.length ≤ 4 * k + done.length ∧ h < n) rfl ⟨s4, A, b, rfl, hA, by simpa using al, hb⟩ ?_ ?_
          · rintro done2 y rest2 ω er2 ⟨s, A, h, rfl, hA, al, hh⟩
            obtain ⟨hy, hlt2⟩ := rangeL_split er2
            have hl3 : (done2 ++ [y]).length = done2.length + 1 := by simp
            rw [hl3]
            have d4 : done2.length < 3 := by omega
            generalize done2.length = k2 at *
            refine ⟨[some (srcO s), some (.d (.int ((n : Int)))), some (.d (.int ((b : Int)))), some (.d (.int ((g : Int)))), some (.d (.bl far)), some (.l ((A).map fun a => .d (arD a))), some (.d (.int (x))), some (.d (.int ((h : Int)))), some (.d (.int (y))), none], rfl, ?_⟩
            refine w_cut (fun ω => ∃ (s : Int × Int) (v : Nat), ω = [some (srcO s), some (.d (.int ((n : Int)))), some (.d (.int ((b : Int)))), some (.d (.int ((g : Int)))), some (.d (.bl far)), some (.l ((A).map fun a => .d (arD a))), some (.d (.int (x))), some (.d (.int ((h : Int)))), some (.d (.int (y))), some (.d (.int ((v : Int))))] ∧ v < n) ?_ ?_
            · obtain ⟨s', v, ev, v0, _⟩ := other_ok s hh n2 hn
              refine w_setN (x_eoD (x_evO (x_src2 (s := s) (d := .int (h : Int)) (d' := .int (n : Int)) rfl (by simp [viewD_x]) (by simp [viewD_x]) ev fun w3 hw3 w hw => ⟨s', v, ?_, v0⟩)))
              rw [← hw, ← hw3, frz_d']
              rfl
            rintro ω ⟨s, v, rfl, vn⟩
            refine w_cut (fun ω => ∃ (s : Int × Int) (c : Int), ω = [some (srcO s), some (.d (.int ((n : Int)))), some (.d (.int ((b : Int)))), some (.d (.int ((g : Int)))), some (.d (.bl far)), some (.l ((A ++ [(h, v, c)]).map fun a => .d (arD a))), some (.d (.int (x))), some (.d (.int ((h : Int)))), some (.d (.int (y))), some (.d (.int ((v : Int))))] ∧ 0 ≤ c ∧ c ≤ 1000000) ?_ ?_
            · obtain ⟨s', c, ec, c0, c1⟩ := capacity_ok s far
              refine w_appN (os := A.map fun a => .d (arD a)) rfl (by rw [List.length_map]; omega) (x_eoD (x_tup (x_acons (x_liD (d := .int (h : Int)) (by simp [viewD_x]) (x_acons (x_liD (d := .int (v : Int)) (by simp [viewD_x]) (x_acons (x_evO (x_src1 (s := s) (d := .bl far) rfl (by simp [viewD_x]) ec fun w3 hw3 => x_anil ⟨by simp, by rw [← hw3]; rfl, fun w hw => ⟨s', c, ?_, c0, c1⟩⟩)))))))))
              rw [← hw, ← hw3, frz_d', List.map_append]
              rfl
            rintro ω ⟨s, c, rfl, c0, c1⟩
            refine t_set1 (o := .d (.int (v : Int))) (ω1 := [some (srcO s), some (.d (.int ((n : Int)))), some (.d (.int ((b : Int)))), some (.d (.int ((g : Int)))), some (.d (.bl far)), some (.l ((A ++ [(h, v, c)]).map fun a => .d (arD a))), some (.d (.int (x))), some (.d (.int ((h : Int)))), some (.d (.int (y))), some (.d (.int ((v : Int))))]) (ω2 := [some (srcO s), some (.d (.int ((n : Int)))), some (.d (.int ((b : Int)))), some (.d (.int ((g : Int)))), some (.d (.bl far)), some (.l ((A ++ [(h, v, c)]).map fun a => .d (arD a))), some (.d (.int (x))), some (.d (.int ((v : Int)))), some (.d (.int (y))), some (.d (.int ((v : Int))))]) (by simp [viewD_x]) (by simp only [List.set_cons_zero, List.set_cons_succ] <;> rfl) ⟨s, A ++ [(h, v, c)], v, rfl, fun a ha => ?_, by rw [List.length_append]; simp; omega, vn⟩
            rcases List.mem_append.mp ha with q | q
            · exact hA a q
            · rw [List.mem_singleton.mp q]; exact ⟨hh, vn, c0, c1⟩
          · rintro ω ⟨s, A, h, rfl, hA, al, hh⟩
            rw [rangeL_len] at al
            exact ⟨s, A, h, rfl, hA, by omega, hh⟩
        rintro ω ⟨s, A, h, rfl, hA, al, hh⟩
        refine t_if1 (b := !decide ((h : Int) = (g : Int))) (ω1 := [some (srcO s), some (.d (.int ((n : Int)))), some (.d (.int ((b : Int)))), some (.d (.int ((g : Int)))), some (.d (.bl far)), some (.l ((A).map fun a => .d (arD a))), some (.d (.int (x))), some (.d (.int ((h : Int)))), none, none]) (by simp) (fun _ => ?_) fun _ => w_nx ⟨s, A, rfl, hA, by omega⟩
        obtain ⟨s', c, ec, c0, c1⟩ := capacity_ok s far
        refine w_appN (os := A.map fun a => .d (arD a)) rfl (by rw [List.length_map]; omega) (x_eoD (x_tup (x_acons (x_liD (d := .int (h : Int)) (by simp [viewD_x]) (x_acons (x_liD (d := .int (g : Int)) (by simp [viewD_x]) (x_acons (x_evO (x_src1 (s := s) (d := .bl far) rfl (by simp [viewD_x]) ec fun w3 hw3 => x_anil ⟨by simp, by rw [← hw3]; rfl, fun w hw => ⟨s', A ++ [(h, g, c)], ?_, fun a ha => ?_, by rw [List.length_append]; simp; omega⟩⟩)))))))))
        · rw [← hw, ← hw3, frz_d', List.map_append]
          rfl
        · rcases List.mem_append.mp ha with q | q
          · exact hA a q
          · rw [List.mem_singleton.mp q]; exact ⟨hh, hg, c0, c1⟩
      · rintro ω ⟨s, A, rfl, hA, al⟩
        rw [rangeL_len] at al
        exact ⟨s, A, rfl, hA, by omega⟩
    rintro ω ⟨s, A, rfl, hA, al⟩
    exact w_ret (x_mv (o := .l (A.map fun a => .d (arD a))) rfl fun w hw => ⟨[srcO s], by rw [← hw]; rfl, s, A, rfl, rfl, al, hA⟩)
  obtain ⟨o, ps, e, s', E, rfl, rfl, h1, h2⟩ := main
  exact ⟨s', E, e, h1, h2⟩
theorem more_ok (s : Int × Int) {A : List Arc} (hA : ∀ a ∈ A, OkA n a) (al : A.length ≤ 1000) (n2 : 2 ≤ n) (hn : n ≤ 100) : ∃ (s' : Int × Int) (a : Arc), v_l_more [srcO s, .l (A.map fun a => .d (arD a)), .d (.int (n : Int)), .d (.bl far)] = .ok (.d (arD a), [srcO s', .l (A.map fun a => .d (arD a))]) ∧ OkA n a := by
  have main : ∃ o ps, v_l_more [srcO s, .l (A.map fun a => .d (arD a)), .d (.int (n : Int)), .d (.bl far)] = .ok (o, ps) ∧ ∃ (s' : Int × Int) (a : Arc), o = .d (arD a) ∧ ps = [srcO s', .l (A.map fun a => .d (arD a))] ∧ OkA n a := by
    have ln := ars_len (c := false) (E := A)
    have fz := frz_ars (E := A)
    unfold v_l_more
    refine w_fnM ?_
    show W (cSeq _ _ [some (srcO s), some (.l (A.map fun a => .d (arD a))), some (.d (.int ((n : Int)))), some (.d (.bl far)), none, none, none, none]) _ _ _ _
    refine t_draw (s := s) (n := (n : Int)) (j := 0) rfl (by simp [viewD_x, viewD_ar]) (by omega) (by omega) rfl fun fi s f0 f1 => ?_
    obtain ⟨x, rfl⟩ : ∃ x : Nat, fi = (x : Int) := ⟨fi.toNat, by omega⟩
    have xn : x < n := by omega
    show W (cSeq _ _ [some (srcO s), some (.l (A.map fun a => .d (arD a))), some (.d (.int ((n : Int)))), some (.d (.bl far)), some (.d (.int ((x : Int)))), none, none, none]) _ _ _ _
    refine w_cut (fun ω => ∃ (s : Int × Int) (v : Nat), ω = [some (srcO s), some (.l (A.map fun a => .d (arD a))), some (.d (.int ((n : Int)))), some (.d (.bl far)), some (.d (.int ((x : Int)))), some (.d (.int ((v : Int)))), none, none] ∧ v < n) ?_ ?_
    · obtain ⟨s', v, ev, v0, _⟩ := other_ok s xn n2 hn
      refine w_setN (x_eoD (x_evO (x_src2 (s := s) (d := .int (x : Int)) (d' := .int (n : Int)) rfl (by simp [viewD_x, viewD_ar]) (by simp [viewD_x, viewD_ar]) ev fun w3 hw3 w hw => ⟨s', v, ?_, v0⟩)))
      rw [← hw, ← hw3, frz_d']
      rfl
    rintro ω ⟨s, v, rfl, vn⟩
    refine t_draw (s := s) (n := 8) (j := 0) rfl (by simp [viewD_x, viewD_ar]) (by decide) (by decide) rfl fun kd s k0 k1 => ?_
    show W (cSeq _ _ [some (srcO s), some (.l (A.map fun a => .d (arD a))), some (.d (.int ((n : Int)))), some (.d (.bl far)), some (.d (.int ((x : Int)))), some (.d (.int ((v : Int)))), some (.d (.int (kd))), none]) _ _ _ _
    refine w_cut (fun ω => ∃ (v : Nat), ω = [some (srcO s), some (.l (A.map fun a => .d (arD a))), some (.d (.int ((n : Int)))), some (.d (.bl far)), some (.d (.int ((x : Int)))), some (.d (.int ((v : Int)))), some (.d (.int (kd))), none] ∧ v < n) ?_ ?_
    · refine t_if1 (b := decide (kd = 3)) (ω1 := [some (srcO s), some (.l (A.map fun a => .d (arD a))), some (.d (.int ((n : Int)))), some (.d (.bl far)), some (.d (.int ((x : Int)))), some (.d (.int ((v : Int)))), some (.d (.int (kd))), none]) (by simp) (fun _ => ?_) fun _ => w_nx ⟨v, rfl, vn⟩
      exact t_set1 (o := .d (.int (x : Int))) (ω1 := [some (srcO s), some (.l (A.map fun a => .d (arD a))), some (.d (.int ((n : Int)))), some (.d (.bl far)), some (.d (.int ((x : Int)))), some (.d (.int ((v : Int)))), some (.d (.int (kd))), none]) (ω2 := [some (srcO s), some (.l (A.map fun a => .d (arD a))), some (.d (.int ((n : Int)))), some (.d (.bl far)), some (.d (.int ((x : Int)))), some (.d (.int ((x : Int)))), some (.d (.int (kd))), none]) (by simp [viewD_x, viewD_ar]) (by simp only [List.set_cons_zero, List.set_cons_succ] <;> rfl) ⟨x, rfl, xn⟩
    rintro ω ⟨v, rfl, vn⟩
    refine w_cut (fun ω => ∃ (s : Int × Int) (x v : Nat) (od : Option O), ω = [some (srcO s), some (.l (A.map fun a => .d (arD a))), some (.d (.int (n : Int))), some (.d (.bl far)), some (.d (.int (x : Int))), some (.d (.int (v : Int))), some (.d (.int kd)), od] ∧ x < n ∧ v < n) ?_ ?_
    · refine t_if1 (b := decide (kd < 3) && decide (0 < A.length)) (ω1 := [some (srcO s), some (.l (A.map fun a => .d (arD a))), some (.d (.int ((n : Int)))), some (.d (.bl far)), some (.d (.int ((x : Int)))), some (.d (.int ((v : Int)))), some (.d (.int (kd))), none]) ?_ (fun hb => ?_) fun _ => w_nx ⟨s, x, v, none, rfl, xn, vn⟩
      · have e : decide ((0 : Int) < (A.length : Int)) = decide (0 < A.length) := decide_eq_decide.mpr (by omega)
        rw [← e]
        generalize (O.l (A.map fun a => O.d (arD a))) = ao at *
        generalize arsD false A = ad at *
        by_cases h3 : kd < 3 <;> simp [h3, ln, fz]
      · have hl : 0 < A.length := of_decide_eq_true (Bool.and_eq_true_iff.mp hb).2
        refine w_cut (fun ω => ∃ (s : Int × Int) (a : Arc), ω = [some (srcO s), some (.l (A.map fun a => .d (arD a))), some (.d (.int ((n : Int)))), some (.d (.bl far)), some (.d (.int ((x : Int)))), some (.d (.int ((v : Int)))), some (.d (.int (kd))), some (.d (arD a))] ∧ OkA n a) ?_ ?_
        · refine w_setN (x_eoD (x_item (os0 := A.map fun a => .d (arD a)) rfl (x_evO (x_drawA (f := v_l_draw) rfl (s := s) (n := (A.length : Int)) rfl ?_ (by omega) (by omega) fun q s3 q0 q1 => ?_))))
          · generalize (O.l (A.map fun a => O.d (arD a))) = ao at *
            generalize arsD false A = ad at *
            simp [ln, fz]
          obtain ⟨k, rfl⟩ : ∃ k : Nat, q = (k : Int) := ⟨q.toNat, by omega⟩
          refine ⟨(k : Int), k, arD (arc A k), by rw [frz_d'], rfl, by rw [List.length_map, ixN_nn (by omega) (by omega)]; rfl, by rw [List.getElem?_map, arc_at (by omega)]; rfl, fun w hw => ⟨s3, arc A k, ?_, hA _ (List.mem_of_getElem? (arc_at (by omega)))⟩⟩
          rw [← hw]
          rfl
        rintro ω ⟨s, ⟨u, w, c⟩, rfl, a0, a1, _, _⟩
        simp only at a0 a1
        have o0 : gIx (arD (u, w, c)) (.int 0) = some (.d (.int (u : Int))) := rfl
        have o1 : gIx (arD (u, w, c)) (.int 1) = some (.d (.int (w : Int))) := rfl
        generalize arD (u, w, c) = xd at *
        refine t_set (o := .d (.int (u : Int))) (ω1 := [some (srcO s), some (.l (A.map fun a => .d (arD a))), some (.d (.int ((n : Int)))), some (.d (.bl far)), some (.d (.int ((x : Int)))), some (.d (.int ((v : Int)))), some (.d (.int (kd))), some (.d (xd))]) (ω2 := [some (srcO s), some (.l (A.map fun a => .d (arD a))), some (.d (.int ((n : Int)))), some (.d (.bl far)), some (.d (.int ((u : Int)))), some (.d (.int ((v : Int)))), some (.d (.int (kd))), some (.d (xd))]) (by simp [viewD_x, o0]) (by simp only [List.set_cons_zero, List.set_cons_succ] <;> rfl) ?_
        refine t_set (o := .d (.int (w : Int))) (ω1 := [some (srcO s), some (.l (A.map fun a => .d (arD a))), some (.d (.int ((n : Int)))), some (.d (.bl far)), some (.d (.int ((u : Int)))), some (.d (.int ((v : Int)))), some (.d (.int (kd))), some (.d (xd))]) (ω2 := [some (srcO s), some (.l (A.map fun a => .d (arD a))), some (.d (.int ((n : Int)))), some (.d (.bl far)), some (.d (.int ((u : Int)))), some (.d (.int ((w : Int)))), some (.d (.int (kd))), some (.d (xd))]) (by simp [viewD_x, o1]) (by simp only [List.set_cons_zero, List.set_cons_succ] <;> rfl) ?_
        refine t_if1 (b := decide (kd = 0)) (ω1 := [some (srcO s), some (.l (A.map fun a => .d (arD a))), some (.d (.int ((n : Int)))), some (.d (.bl far)), some (.d (.int ((u : Int)))), some (.d (.int ((w : Int)))), some (.d (.int (kd))), some (.d (xd))]) (by simp) (fun _ => ?_) fun _ => w_nx ⟨s, u, w, some (.d xd), rfl, a0, a1⟩
        refine t_set (o := .d (.int (w : Int))) (ω1 := [some (srcO s), some (.l (A.map fun a => .d (arD a))), some (.d (.int ((n : Int)))), some (.d (.bl far)), some (.d (.int ((u : Int)))), some (.d (.int ((w : Int)))), some (.d (.int (kd))), some (.d (xd))]) (ω2 := [some (srcO s), some (.l (A.map fun a => .d (arD a))), some (.d (.int ((n : Int)))), some (.d (.bl far)), some (.d (.int ((w : Int)))), some (.d (.int ((w : Int)))), some (.d (.int (kd))), some (.d (xd))]) (by simp [viewD_x, o1]) (by simp only [List.set_cons_zero, List.set_cons_succ] <;> rfl) ?_
        exact t_set1 (o := .d (.int (u : Int))) (ω1 := [some (srcO s), some (.l (A.map fun a => .d (arD a))), some (.d (.int ((n : Int)))), some (.d (.bl far)), some (.d (.int ((w : Int)))), some (.d (.int ((w : Int)))), some (.d (.int (kd))), some (.d (xd))]) (ω2 := [some (srcO s), some (.l (A.map fun a => .d (arD a))), some (.d (.int ((n : Int)))), some (.d (.bl far)), some (.d (.int ((w : Int)))), some (.d (.int ((u : Int)))), some (.d (.int (kd))), some (.d (xd))]) (by simp [viewD_x, o0]) (by simp only [List.set_cons_zero, List.set_cons_succ] <;> rfl) ⟨s, w, u, some (.d xd), rfl, a1, a0⟩
    rintro ω ⟨s, x, v, od, rfl, xn, vn⟩
    obtain ⟨s', c, ec, c0, c1⟩ := capacity_ok s far
    refine w_ret (x_eoD (x_tup (x_acons (x_liD (d := .int (x : Int)) (by simp [viewD_x, viewD_ar]) (x_acons (x_liD (d := .int (v : Int)) (by simp [viewD_x, viewD_ar]) (x_acons (x_evO (x_src1 (s := s) (d := .bl far) rfl (by simp [viewD_x, viewD_ar]) ec fun w3 hw3 => x_anil ⟨by simp, [srcO s', .l (A.map fun a => .d (arD a))], by rw [← hw3]; rfl, s', (x, v, c), ?_, rfl, xn, vn, c0, c1⟩)))))))))
    rw [frz_d']
    rfl
  obtain ⟨o, ps, e, s', a, rfl, rfl, h1⟩ := main
  exact ⟨s', a, e, h1⟩
end
end Lw.Fo
namespace Lw.Fo
open PySem PySem.Spec PyProof.Rows L2 FL VL Fg
section
variable {far : Bool} {n b g : Nat} {sh : Int}
theorem net_ok (s : Int × Int) (hb : b < n) (hg : g < n) (n2 : 2 ≤ n) (hn : n ≤ 100) (h6 : sh = 1 ∨ sh = 2 → 6 ≤ n) : ∃ o s', v_l_net [srcO s, .d (.int sh), .d (.int (n : Int)), .d (.int (b : Int)), .d (.int (g : Int)), .d (.bl far)] = .ok (o, [srcO s']) ∧ ∃ E : List Arc, frz o = arsD false E ∧ E.length ≤ 72 ∧ ∀ a ∈ E, OkA n a := by
  have main : ∃ o ps, v_l_net [srcO s, .d (.int sh), .d (.int (n : Int)), .d (.int (b : Int)), .d (.int (g : Int)), .d (.bl far)] = .ok (o, ps) ∧ ∃ (s' : Int × Int) (E : List Arc), frz o = arsD false E ∧ ps = [srcO s'] ∧ E.length ≤ 72 ∧ ∀ a ∈ E, OkA n a := by
    unfold v_l_net
    refine w_fnM ?_
    show W (cSeq _ _ [some (srcO s), some (.d (.int (sh))), some (.d (.int ((n : Int)))), some (.d (.int ((b : Int)))), some (.d (.int ((g : Int)))), some (.d (.bl far)), none, none, none]) _ _ _ _
    refine t_set (o := .d (.int 5)) (ω1 := [some (srcO s), some (.d (.int (sh))), some (.d (.int ((n : Int)))), some (.d (.int ((b : Int)))), some (.d (.int ((g : Int)))), some (.d (.bl far)), none, none, none]) (ω2 := [some (srcO s), some (.d (.int (sh))), some (.d (.int ((n : Int)))), some (.d (.int ((b : Int)))), some (.d (.int ((g : Int)))), some (.d (.bl far)), some (.d (.int (5))), none, none]) (by simp [viewD_x]) (by simp only [List.set_cons_zero, List.set_cons_succ] <;> rfl) ?_
    refine w_cut (fun ω => ∃ m : Int, ω = [some (srcO s), some (.d (.int (sh))), some (.d (.int ((n : Int)))), some (.d (.int ((b : Int)))), some (.d (.int ((g : Int)))), some (.d (.bl far)), some (.d (.int (m))), none, none] ∧ 1 ≤ m ∧ m ≤ 61) ?_ ?_
    · refine t_if1 (b := decide (sh = 0)) (ω1 := [some (srcO s), some (.d (.int (sh))), some (.d (.int ((n : Int)))), some (.d (.int ((b : Int)))), some (.d (.int ((g : Int)))), some (.d (.bl far)), some (.d (.int (5))), none, none]) (by simp) (fun _ => ?_) fun _ => w_nx ⟨5, rfl, by decide, by decide⟩
      exact t_set1 (o := .d (.int 61)) (ω1 := [some (srcO s), some (.d (.int (sh))), some (.d (.int ((n : Int)))), some (.d (.int ((b : Int)))), some (.d (.int ((g : Int)))), some (.d (.bl far)), some (.d (.int (5))), none, none]) (ω2 := [some (srcO s), some (.d (.int (sh))), some (.d (.int ((n : Int)))), some (.d (.int ((b : Int)))), some (.d (.int ((g : Int)))), some (.d (.bl far)), some (.d (.int (61))), none, none]) (by simp [viewD_x]) (by simp only [List.set_cons_zero, List.set_cons_succ] <;> rfl) ⟨61, rfl, by decide, by decide⟩
    rintro ω ⟨m, rfl, m1, m2⟩
    refine w_cut (fun ω => ∃ (s : Int × Int) (m : Int) (A : List Arc), ω = [some (srcO s), some (.d (.int (sh))), some (.d (.int ((n : Int)))), some (.d (.int ((b : Int)))), some (.d (.int ((g : Int)))), some (.d (.bl far)), some (.d (.int (m))), some (.l (A.map fun a => .d (arD a))), none] ∧ 1 ≤ m ∧ m ≤ 61 ∧ (∀ a ∈ A, OkA n a) ∧ A.length ≤ 12) ?_ ?_
    · have e : (decide (sh = 1) || decide (sh = 2)) = decide (sh = 1 ∨ sh = 2) := by by_cases h1 : sh = 1 <;> simp [h1]
      refine t_if1 (b := decide (sh = 1 ∨ sh = 2)) (ω1 := [some (srcO s), some (.d (.int (sh))), some (.d (.int ((n : Int)))), some (.d (.int ((b : Int)))), some (.d (.int ((g : Int)))), some (.d (.bl far)), some (.d (.int (m))), none, none]) (by rw [← e]; by_cases h1 : sh = 1 <;> simp [h1]) (fun hb' => ?_) fun _ => ?_
      · have n6 := h6 (of_decide_eq_true hb')
        refine t_set (o := .d (.int 3)) (ω1 := [some (srcO s), some (.d (.int (sh))), some (.d (.int ((n : Int)))), some (.d (.int ((b : Int)))), some (.d (.int ((g : Int)))), some (.d (.bl far)), some (.d (.int (m))), none, none]) (ω2 := [some (srcO s), some (.d (.int (sh))), some (.d (.int ((n : Int)))), some (.d (.int ((b : Int)))), some (.d (.int ((g : Int)))), some (.d (.bl far)), some (.d (.int (3))), none, none]) (by simp [viewD_x]) (by simp only [List.set_cons_zero, List.set_cons_succ] <;> rfl) ?_
        obtain ⟨s', E, ee, el, eo⟩ := exchange_ok (far := far) s hb hg n6 hn
        refine w_setN (x_callX (x_erS rfl (x_erD (x_liD (d := .int (n : Int)) (by simp [viewD_x]) (x_erD (x_liD (d := .int (b : Int)) (by simp [viewD_x]) (x_erD (x_liD (d := .int (g : Int)) (by simp [viewD_x]) (x_erD (x_liD (d := .bl far) (by simp [viewD_x]) (x_erN ⟨_, _, rfl, rfl, _, _, ee, fun w hw w2 hw2 => ⟨s', 3, E, ?_, by decide, by decide, eo, by omega⟩⟩)))))))))))
        rw [← hw2, ← hw]
        rfl
      · obtain ⟨s', E, ee, el, eo⟩ := ways_ok (far := far) s hb hg n2 hn
        refine w_setN (x_callX (x_erS rfl (x_erD (x_liD (d := .int (n : Int)) (by simp [viewD_x]) (x_erD (x_liD (d := .int (b : Int)) (by simp [viewD_x]) (x_erD (x_liD (d := .int (g : Int)) (by simp [viewD_x]) (x_erD (x_liD (d := .bl far) (by simp [viewD_x]) (x_erN ⟨_, _, rfl, rfl, _, _, ee, fun w hw w2 hw2 => ⟨s', m, E, ?_, m1, m2, eo, el⟩⟩)))))))))))
        rw [← hw2, ← hw]
        rfl
    clear m1 m2
    rintro ω ⟨s, m, A, rfl, m1, m2, hA, al⟩
    refine w_cut (fun ω => ∃ (s : Int × Int) (A : List Arc), ω = [some (srcO s), some (.d (.int (sh))), some (.d (.int ((n : Int)))), some (.d (.int ((b : Int)))), some (.d (.int ((g : Int)))), some (.d (.bl far)), some (.d (.int (m))), some (.l (A.map fun a => .d (arD a))), none] ∧ (∀ a ∈ A, OkA n a) ∧ A.length ≤ 72) ?_ ?_
    · refine w_forX (x_iX1 (x_evO (x_drawN (f := v_l_draw) rfl (s := s) (n := m) rfl (by simp [viewD_x]) (by omega) (by omega) fun q s3 w3 q0 q1 hw3 => ⟨(rangeL 0 q).map fun i => .one (.int i), by rw [frz_d']; exact kRange1_m (inR_s (by omega) (by omega)), ?_⟩)))
      rw [← hw3]
      refine w_for (fun i : Int => .one (.int i)) (rangeL 0 q) (fun done ω => ∃ (s : Int × Int) (A : List Arc), ω = [some (srcO s), some (.d (.int (sh))), some (.d (.int ((n : Int)))), some (.d (.int ((b : Int)))), some (.d (.int ((g : Int)))), some (.d (.bl far)), some (.d (.int (m))), some (.l (A.map fun a => .d (arD a))), none] ∧ (∀ a ∈ A, OkA n a) ∧ A.length ≤ 12 + done.length) rfl ⟨s3, A, rfl, hA, by simpa using al⟩ ?_ ?_
      · rintro done x rest ω er ⟨s, A, rfl, hA, al⟩
        obtain ⟨hx, hlt⟩ := rangeL_split er
        refine ⟨[some (srcO s), some (.d (.int (sh))), some (.d (.int ((n : Int)))), some (.d (.int ((b : Int)))), some (.d (.int ((g : Int)))), some (.d (.bl far)), some (.d (.int (m))), some (.l (A.map fun a => .d (arD a))), some (.d (.int (x)))], rfl, ?_⟩
        obtain ⟨s', a, ea, oa⟩ := more_ok (far := far) s hA (by omega) n2 hn
        refine w_appN (os := A.map fun a => .d (arD a)) rfl (by rw [List.length_map]; omega) (x_callX (x_erS rfl (x_erS rfl (x_erD (x_liD (d := .int (n : Int)) (by simp [viewD_x]) (x_erD (x_liD (d := .bl far) (by simp [viewD_x]) (x_erN ⟨_, _, rfl, rfl, _, _, ea, fun w hw => ⟨by rw [← hw]; rfl, fun w2 hw2 => ⟨s', A ++ [a], ?_, fun z hz => ?_, by rw [List.length_append, List.length_append]; simp; omega⟩⟩⟩))))))))
        · rw [← hw2, ← hw, List.map_append]
          rfl
        · rcases List.mem_append.mp hz with q | q
          · exact hA z q
          · rw [List.mem_singleton.mp q]; exact oa
      · rintro ω ⟨s, A, rfl, hA, al⟩
        rw [rangeL_len] at al
        exact ⟨s, A, rfl, hA, by omega⟩
    clear hA al
    rintro ω ⟨s, A, rfl, hA, al⟩
    have ln := ars_len (c := false) (E := A)
    have fz := frz_ars (E := A)
    refine w_cut (fun ω => ∃ (s : Int × Int) (t : Nat), ω = [some (srcO s), some (.d (.int (sh))), some (.d (.int ((n : Int)))), some (.d (.int ((b : Int)))), some (.d (.int ((g : Int)))), some (.d (.bl far)), some (.d (.int (m))), some (.l (A.map fun a => .d (arD a))), some (.d (.int ((t : Int))))]) ?_ ?_
    · refine w_setN (x_eoD (x_evO (x_drawA (f := v_l_draw) rfl (s := s) (n := (A.length : Int) + 1) rfl ?_ (by omega) (by omega) fun q s3 q0 q1 w hw => ⟨s3, q.toNat, ?_⟩)))
      · generalize (O.l (A.map fun a => O.d (arD a))) = ao at *
        generalize arsD false A = ad at *
        simp [ln, fz]
      · rw [← hw, show ((q.toNat : Nat) : Int) = q by omega, frz_d']
        rfl
    rintro ω ⟨s, t, rfl⟩
    have eA : arsD false A = .lst (A.map arD) := rfl
    have sl1 : (slR (.ok (arsD false A)) (.ok (some (t : Int))) (.ok none)).map frz = .ok (.lst ((A.map arD).drop t)) := by
      rw [eA, slR_l, cut_from, rmap_ok, frz_ld]
    have sl2 : (slR (.ok (arsD false A)) (.ok none) (.ok (some (t : Int)))).map frz = .ok (.lst ((A.map arD).take t)) := by
      rw [eA, slR_l, cut_to, rmap_ok, frz_ld]
    have ea : gAdd (.lst ((A.map arD).drop t)) (.lst ((A.map arD).take t)) = some (.l ((A.drop t ++ A.take t).map fun a => .d (arD a))) := by
      rw [gAdd_l (by rw [List.length_drop, List.length_take, List.length_map]; omega), ← List.map_drop, ← List.map_take, ← List.map_append, List.map_map]
      rfl
    have fo : flatO (.l ((A.drop t ++ A.take t).map fun a => O.d (arD a))) = true := by
      rw [flatO_l]
      exact flatOL_map fun a _ => by simp [flat_ar]
    refine t_ret (o := .l ((A.drop t ++ A.take t).map fun a => .d (arD a))) (ω1 := [some (srcO s), some (.d (.int (sh))), some (.d (.int ((n : Int)))), some (.d (.int ((b : Int)))), some (.d (.int ((g : Int)))), some (.d (.bl far)), some (.d (.int (m))), some (.l (A.map fun a => .d (arD a))), some (.d (.int ((t : Int))))]) ?_ ⟨[srcO s], rfl, s, A.drop t ++ A.take t, frz_ars, rfl, by rw [rot_len]; exact al, fun a ha => hA a (rot_mem ha)⟩
    have va : viewA [some (srcO s), some (.d (.int (sh))), some (.d (.int ((n : Int)))), some (.d (.int ((b : Int)))), some (.d (.int ((g : Int)))), some (.d (.bl far)), some (.d (.int (m))), some (.l (A.map fun a => .d (arD a))), some (.d (.int ((t : Int))))] = [some (frz (srcO s)), some (.int sh), some (.int (n : Int)), some (.int (b : Int)), some (.int (g : Int)), some (.bl far), some (.int m), some (arsD false A), some (.int (t : Int))] := by
      simp [fz]
    rw [loA_ap, va]
    have e0 : VL.cBinO gAdd (dO (VL.cSl (VL.cV 7) (partI (VL.cV 8)) noPart)) (dO (VL.cSl (VL.cV 7) noPart (partI (VL.cV 8)))) [some (frz (srcO s)), some (.int sh), some (.int (n : Int)), some (.int (b : Int)), some (.int (g : Int)), some (.bl far), some (.int m), some (arsD false A), some (.int (t : Int))] = .ok (.l ((A.drop t ++ A.take t).map fun a => .d (arD a))) := by
      generalize frz (srcO s) = fs at *
      generalize arsD false A = ad at *
      generalize O.l ((A.drop t ++ A.take t).map fun a => O.d (arD a)) = oo at *
      simp [sl1, sl2, ea]
    rw [e0, loAR_s, if_pos fo]
  obtain ⟨o, ps, e, s', E, h1, rfl, h2, h3⟩ := main
  exact ⟨o, s', e, E, h1, h2, h3⟩
end
end Lw.Fo
namespace Lw.Fo
open PySem PySem.Spec PyProof.Rows L2 FL VL Fg
def rwA (A : List Arc) : LL := A.map fun a => [(a.1 : Int), (a.2.1 : Int), a.2.2]
theorem ars_qR {c : Bool} {A : List Arc} : arsD c A = qR c true (rwA A) := by
  unfold arsD qR rwA
  rw [List.map_map]
  rfl
theorem ne_same (A : List Arc) : gNe (arsD false A) (arsD false A) = some (.d (.bl false)) := by
  rw [ars_qR]
  have := EqE.int.tup.lst.gNe (by decide) (rwA A) (rwA A)
  refine this.trans ?_
  simp
theorem ars_list {c : Bool} {A : List Arc} : gList [arsD c A] = some (.l (A.map fun a => .d (arD a))) := by
  have e : (A.map fun a => O.d (arD a)) = (A.map arD).map O.d := by rw [List.map_map]; rfl
  rw [e]
  cases c <;> rfl
theorem ars_tup {A : List Arc} : gTuple [arsD false A] = some (.d (arsD true A)) := rfl
theorem handed_ok {A : List Arc} {fm : Int} : ∃ o, v_l_handed [.int fm, arsD false A] = .ok o ∧ frz o = arsD (decide (fm = 1)) A := by
  have gl := ars_list (c := false) (A := A)
  have gt := ars_tup (A := A)
  by_cases h : fm = 1
  · refine ⟨.d (arsD true A), ?_, by rw [decide_eq_true h]; exact frz_d'⟩
    generalize arsD true A = td at *
    generalize hla : arsD false A = la at *
    unfold v_l_handed
    refine w_isP ?_
    show W (cSeq _ _ [some (.d (.int (fm))), some (.d (la))]) _ _ _ _
    exact t_ifT (ω1 := [some (.d (.int (fm))), some (.d (la))]) (by simp [h]) (t_retS (o := .d td) (ω1 := [some (.d (.int (fm))), some (.d (la))]) (by simp [gt]) rfl)
  · refine ⟨.l (A.map fun a => .d (arD a)), ?_, by rw [decide_eq_false h]; exact frz_ars⟩
    generalize (O.l (A.map fun a => O.d (arD a))) = lo at *
    generalize arsD false A = la at *
    unfold v_l_handed
    refine w_isP ?_
    show W (cSeq _ _ [some (.d (.int (fm))), some (.d (la))]) _ _ _ _
    refine t_ifF (ω1 := [some (.d (.int (fm))), some (.d (la))]) (by simp [h]) (t_nx ?_)
    exact t_ret (o := lo) (ω1 := [some (.d (.int (fm))), some (.d (la))]) (by
      rw [loD_ap]
      show liDR (cbO gList (consR (.ok la) (.ok []))) _ = _
      rw [consR_ok, cbO_s, gl]
      rfl) rfl
theorem rp_n {F : List Nat} {k : Nat} (hF : ∀ x ∈ F, x < k) (hk : k ≤ 100) (hl : F.length ≤ 100) : RpD 1 10503 (nD F) := by
  have e : nD F = .lst ((cst F).map .int) := by
    unfold nD cst
    rw [List.map_map]
    rfl
  rw [e]
  refine (RpD.ints fun i hi => ?_).up (Nat.le_refl _) (by unfold cst; rw [List.length_map]; omega)
  obtain ⟨x, hx, rfl⟩ := List.mem_map.mp hi
  have := hF x hx
  omega
theorem rp_f {f : List Int} (hf : ∀ x ∈ f, 0 ≤ x ∧ x ≤ 1000000) (hl : f.length ≤ 100) : RpD 1 10503 (flD f) := (RpD.ints fun i hi => by have := hf i hi; omega).up (Nat.le_refl _) (by omega)
theorem rp_gre {n s t : Nat} {E : List Arc} {f : List Int} {F : List Nat} (h : Gre n E s t f F) (hM : ∀ i, i < E.length → (arc E i).2.2 ≤ 1000000) (hE : Fg.In n E) (hn : n ≤ 100) (hl : E.length ≤ 99) : RpD 2 31518 (.tup [.int (net E f s), flD f, nD F]) := by
  have fl : F.length ≤ n := by
    have := nd_len (L := F) (R := List.range n) (h.asc.imp fun {a b} q => Nat.ne_of_lt q) fun x hx => List.mem_range.mpr (h.lt x hx)
    rwa [List.length_range] at this
  have up := h.flo.net_le hM (by decide) s
  have lo : 0 ≤ net E f s := by
    rw [h.cut]
    unfold across
    have := Fg.sm_le (n := E.length) (g := fun _ => 0) (h := fun i => if (arc E i).1 ∈ F ∧ (arc E i).2.1 ∉ F then (arc E i).2.2 else 0) fun i hi => by
      have := (hE.at hi).2.2
      split <;> omega
    rw [Fg.sm_0] at this
    exact this
  have ff : ∀ x ∈ f, 0 ≤ x ∧ x ≤ 1000000 := fun x hx => by
    obtain ⟨i, hi⟩ := List.getElem?_of_mem hx
    have hi2 : i < E.length := by rw [← h.flo.len]; exact (List.getElem?_eq_some_iff.mp hi).1
    have e : Fg.fl f i = x := by unfold Fg.fl; rw [hi]; rfl
    have h1 := h.flo.lo i hi2
    have h2 := h.flo.hi i hi2
    have h3 := hM i hi2
    omega
  refine (RpD.tup (k := 1) (B := 10503) fun d hd => ?_).up (Nat.le_refl _) (by simp)
  rcases List.mem_cons.mp hd with q | hd
  · rw [q]; exact (RpD.i (by omega) (by omega)).up (by decide) (by decide)
  rcases List.mem_cons.mp hd with q | hd
  · rw [q]; exact rp_f ff (by have := h.flo.len; omega)
  · rw [List.mem_singleton.mp hd]; exact rp_n h.lt hn (by omega)
theorem law_true (ns : List Int) (h : ns.length ≤ 63) : v_law [.scr ns] = .ok (.d (.bl true)) := by
  obtain ⟨s0, hs0⟩ : ∃ s, v_l_source [.scr ns, .int 0] = .ok (srcO s) := source_ok ns 0
  obtain ⟨sA, hsA⟩ : ∃ s, v_l_source [.scr ns, .int 1] = .ok (srcO s) := source_ok ns 1
  unfold v_law
  refine w_isP ?_
  show W (cSeq _ _ [some (.d (.scr ns)), none, none, none, none, none, none, none, none, none, none, none, none]) _ _ _ _
  refine t_set (o := srcO s0) (ω1 := [some (.d (.scr ns)), none, none, none, none, none, none, none, none, none, none, none, none]) (ω2 := [some (.d (.scr ns)), some (srcO s0), none, none, none, none, none, none, none, none, none, none, none]) (by simp [viewD_x, hs0]) (by simp only [List.set_cons_zero, List.set_cons_succ] <;> rfl) ?_
  refine t_draw (s := s0) (n := 8) (j := 1) rfl (by simp [viewD_x]) (by decide) (by decide) rfl fun sh s sh0 sh1 => ?_
  show W (cSeq _ _ [some (.d (.scr ns)), some (srcO s), some (.d (.int (sh))), none, none, none, none, none, none, none, none, none, none]) _ _ _ _
  refine w_cut (fun ω => ∃ (s : Int × Int) (far : Bool), ω = [some (.d (.scr ns)), some (srcO s), some (.d (.int (sh))), some (.d (.bl far)), none, none, none, none, none, none, none, none, none]) ?_ ?_
  · refine w_setN (x_eoD (x_bin (x_evO (x_drawN (f := v_l_draw) rfl (s := s) (n := 4) rfl (by simp [viewD_x]) (by decide) (by decide) fun q s3 w3 q0 q1 hw3 => x_liD (d := .int 0) rfl ⟨.d (.bl (decide (q = 0))), by rw [frz_d']; exact gEq_i, fun w4 hw4 => ⟨s3, decide (q = 0), ?_⟩⟩))))
    rw [← hw4, ← hw3, frz_d']
    rfl
  rintro ω ⟨s, far, rfl⟩
  refine t_draw (s := s) (n := 2) (j := 1) rfl (by simp [viewD_x]) (by decide) (by decide) rfl fun fm s f0 f1 => ?_
  show W (cSeq _ _ [some (.d (.scr ns)), some (srcO s), some (.d (.int (sh))), some (.d (.bl far)), some (.d (.int (fm))), none, none, none, none, none, none, none, none]) _ _ _ _
  refine w_cut (fun ω => ∃ (s : Int × Int) (z : Int), ω = [some (.d (.scr ns)), some (srcO s), some (.d (.int (sh))), some (.d (.bl far)), some (.d (.int (fm))), some (.d (.int ((z)))), none, none, none, none, none, none, none] ∧ 2 ≤ z ∧ z ≤ 20) ?_ ?_
  · refine w_setN (x_eoD (x_bin (x_liD (d := .int 2) (by simp) (x_evO (x_drawN (f := v_l_draw) rfl (s := s) (n := 5) rfl (by simp [viewD_x]) (by decide) (by decide) fun q s3 w3 q0 q1 hw3 => ⟨.d (.int (2 + q)), by rw [frz_d']; rfl, fun w4 hw4 => ⟨s3, 2 + q, ?_, by omega, by omega⟩⟩)))))
    rw [← hw4, ← hw3, frz_d']
    rfl
  rintro ω ⟨s, z, rfl, z0, z1⟩
  refine w_cut (fun ω => ∃ (s : Int × Int) (z : Int), ω = [some (.d (.scr ns)), some (srcO s), some (.d (.int (sh))), some (.d (.bl far)), some (.d (.int (fm))), some (.d (.int ((z)))), none, none, none, none, none, none, none] ∧ 2 ≤ z ∧ z ≤ 20) ?_ ?_
  · refine t_if1 (b := decide (sh = 0)) (ω1 := [some (.d (.scr ns)), some (srcO s), some (.d (.int (sh))), some (.d (.bl far)), some (.d (.int (fm))), some (.d (.int ((z)))), none, none, none, none, none, none, none]) (by simp) (fun _ => ?_) fun _ => w_nx ⟨s, z, rfl, z0, z1⟩
    refine w_setN (x_eoD (x_bin (x_liD (d := .int 7) (by simp) (x_evO (x_drawN (f := v_l_draw) rfl (s := s) (n := 14) rfl (by simp [viewD_x]) (by decide) (by decide) fun q s3 w3 q0 q1 hw3 => ⟨.d (.int (7 + q)), by rw [frz_d']; rfl, fun w4 hw4 => ⟨s3, 7 + q, ?_, by omega, by omega⟩⟩)))))
    rw [← hw4, ← hw3, frz_d']
    rfl
  clear z0 z1
  rintro ω ⟨s, z, rfl, z0, z1⟩
  refine w_cut (fun ω => ∃ (s : Int × Int) (n : Nat), ω = [some (.d (.scr ns)), some (srcO s), some (.d (.int (sh))), some (.d (.bl far)), some (.d (.int (fm))), some (.d (.int (((n : Int))))), none, none, none, none, none, none, none] ∧ 2 ≤ n ∧ n ≤ 20 ∧ (sh = 1 ∨ sh = 2 → 6 ≤ n)) ?_ ?_
  · have e : (decide (sh = 1) || decide (sh = 2)) = decide (sh = 1 ∨ sh = 2) := by by_cases h1 : sh = 1 <;> simp [h1]
    refine t_if1 (b := decide (sh = 1 ∨ sh = 2)) (ω1 := [some (.d (.scr ns)), some (srcO s), some (.d (.int (sh))), some (.d (.bl far)), some (.d (.int (fm))), some (.d (.int ((z)))), none, none, none, none, none, none, none]) (by rw [← e]; by_cases h1 : sh = 1 <;> simp [h1]) (fun _ => ?_) fun hb => w_nx ⟨s, z.toNat, by rw [show ((z.toNat : Nat) : Int) = z by omega], by omega, by omega, fun q => absurd q (of_decide_eq_false hb)⟩
    refine w_setN (x_eoD (x_bin (x_liD (d := .int 6) (by simp) (x_evO (x_drawN (f := v_l_draw) rfl (s := s) (n := 3) rfl (by simp [viewD_x]) (by decide) (by decide) fun q s3 w3 q0 q1 hw3 => ⟨.d (.int (6 + q)), by rw [frz_d']; rfl, fun w4 hw4 => ⟨s3, (6 + q).toNat, ?_, by omega, by omega, fun _ => by omega⟩⟩)))))
    rw [← hw4, ← hw3, frz_d', show (((6 + q).toNat : Nat) : Int) = 6 + q by omega]
    rfl
  clear z0 z1
  rintro ω ⟨s, n, rfl, n2, n20, n6⟩
  refine t_draw (s := s) (n := (n : Int)) (j := 1) rfl (by simp [viewD_x]) (by omega) (by omega) rfl fun bi s b0 b1 => ?_
  obtain ⟨b, rfl⟩ : ∃ b : Nat, bi = (b : Int) := ⟨bi.toNat, by omega⟩
  have bn : b < n := by omega
  show W (cSeq _ _ [some (.d (.scr ns)), some (srcO s), some (.d (.int (sh))), some (.d (.bl far)), some (.d (.int (fm))), some (.d (.int (((n : Int))))), some (.d (.int ((b : Int)))), none, none, none, none, none, none]) _ _ _ _
  refine w_cut (fun ω => ∃ (s : Int × Int) (g : Nat), ω = [some (.d (.scr ns)), some (srcO s), some (.d (.int (sh))), some (.d (.bl far)), some (.d (.int (fm))), some (.d (.int (((n : Int))))), some (.d (.int ((b : Int)))), some (.d (.int ((g : Int)))), none, none, none, none, none] ∧ g < n ∧ g ≠ b) ?_ ?_
  · obtain ⟨s', v, ev, v0, v1⟩ := other_ok s bn n2 (by omega)
    refine w_setN (x_eoD (x_evO (x_src2 (s := s) (d := .int (b : Int)) (d' := .int (n : Int)) rfl (by simp [viewD_x]) (by simp [viewD_x]) ev fun w3 hw3 w hw => ⟨s', v, ?_, v0, v1⟩)))
    rw [← hw, ← hw3, frz_d']
    rfl
  rintro ω ⟨s, g, rfl, gn, gb⟩
  refine w_cut (fun ω => ∃ (E : List Arc), ω = [some (.d (.scr ns)), some (srcO s), some (.d (.int (sh))), some (.d (.bl far)), some (.d (.int (fm))), some (.d (.int (((n : Int))))), some (.d (.int ((b : Int)))), some (.d (.int ((g : Int)))), some (.d (arsD false E)), none, none, none, none] ∧ E.length ≤ 72 ∧ ∀ a ∈ E, OkA n a) ?_ ?_
  · obtain ⟨o, s', ee, E, fo, el, eo⟩ := net_ok (far := far) (sh := sh) sA bn gn n2 (by omega) n6
    refine w_setN (x_eoD (x_evO (x_callX (x_erO (x_loD (o := srcO sA) (by simp [viewD_x, hsA]) (x_erD (x_liD (d := .int sh) (by simp [viewD_x]) (x_erD (x_liD (d := .int (n : Int)) (by simp [viewD_x]) (x_erD (x_liD (d := .int (b : Int)) (by simp [viewD_x]) (x_erD (x_liD (d := .int (g : Int)) (by simp [viewD_x]) (x_erD (x_liD (d := .bl far) (by simp [viewD_x]) (x_erN ⟨_, _, rfl, rfl, _, _, ee, fun w hw w2 hw2 => ⟨E, ?_, el, eo⟩⟩))))))))))))))))
    rw [← hw2, ← hw, fo]
    rfl
  rintro ω ⟨E, rfl, el, eo⟩
  have hE : Fg.In n E := fun a ha => ⟨(eo a ha).1, (eo a ha).2.1, (eo a ha).2.2.1⟩
  have hM : ∀ i, i < E.length → (arc E i).2.2 ≤ 1000000 := fun i hi => (eo _ (List.mem_of_getElem? (arc_at hi))).2.2.2
  obtain ⟨o, ho, fz⟩ := handed_ok (A := E) (fm := fm)
  obtain ⟨_, eg, f, F, rfl, gre⟩ := greatest_flow_ok (c := decide (fm = 1)) hE (by omega) (by omega) hM bn gn (fun q => gb q.symm)
  have shw := shows_ok hE (by omega) (by omega) bn gre
  have rp := rp_gre gre hM hE (by omega) (by omega)
  have gr := gRepr_s rp (by decide) (by decide)
  have eqs := eq_str (rpS_ok rp)
  have ft : frz (.t [.d (.int (net E f b)), flO f, nO F]) = .tup [.int (net E f b), flD f, nD F] := by simp [frz_f, frz_n]
  have t2 : gIx (.tup [.int (net E f b), flD f, nD F]) (.int 2) = some (.d (nD F)) := rfl
  have lF := n_len (F := F)
  have li := ars_list (c := decide (fm = 1)) (A := E)
  have fx : VL.fo (some (.l (E.map fun a => O.d (arD a)))) = .ok (arsD false E) := congrArg VL.R.ok (frz_ars (E := E))
  have nsm := ne_same E
  have flen : f.length ≤ 100 := by have := gre.flo.len; omega
  have Flen : F.length ≤ 100 := by
    have := nd_len (L := F) (R := List.range n) (gre.asc.imp fun {a b} q => Nat.ne_of_lt q) fun x hx => List.mem_range.mpr (gre.lt x hx)
    rw [List.length_range] at this
    omega
  clear gre rp
  generalize net E f b = am at *
  generalize D.tup [.int am, flD f, nD F] = td at *
  generalize rpS td = str at *
  generalize arsD (decide (fm = 1)) E = hd at *
  generalize (O.l (E.map fun a => O.d (arD a))) = lo at *
  generalize arsD false E = ad at *
  refine t_set (o := .d hd) (ω1 := [some (.d (.scr ns)), some (srcO s), some (.d (.int (sh))), some (.d (.bl far)), some (.d (.int (fm))), some (.d (.int (((n : Int))))), some (.d (.int ((b : Int)))), some (.d (.int ((g : Int)))), some (.d (ad)), none, none, none, none]) (ω2 := [some (.d (.scr ns)), some (srcO s), some (.d (.int (sh))), some (.d (.bl far)), some (.d (.int (fm))), some (.d (.int ((n : Int)))), some (.d (.int ((b : Int)))), some (.d (.int ((g : Int)))), some (.d (ad)), some (.d (hd)), none, none, none]) (by simp [viewD_x, ho, fz]) (by simp only [List.set_cons_zero, List.set_cons_succ] <;> rfl) ?_
  refine t_set (o := .t [.d (.int am), flO f, nO F]) (ω1 := [some (.d (.scr ns)), some (srcO s), some (.d (.int (sh))), some (.d (.bl far)), some (.d (.int (fm))), some (.d (.int ((n : Int)))), some (.d (.int ((b : Int)))), some (.d (.int ((g : Int)))), some (.d (ad)), some (.d (hd)), none, none, none]) (ω2 := [some (.d (.scr ns)), some (srcO s), some (.d (.int (sh))), some (.d (.bl far)), some (.d (.int (fm))), some (.d (.int ((n : Int)))), some (.d (.int ((b : Int)))), some (.d (.int ((g : Int)))), some (.d (ad)), some (.d (hd)), some (.t [.d (.int am), flO f, nO F]), none, none]) (by
    generalize O.t [.d (.int am), flO f, nO F] = to at *
    simp [viewD_x, eg]) (by simp only [List.set_cons_zero, List.set_cons_succ] <;> rfl) ?_
  refine t_ifF (ω1 := [some (.d (.scr ns)), some (srcO s), some (.d (.int (sh))), some (.d (.bl far)), some (.d (.int (fm))), some (.d (.int ((n : Int)))), some (.d (.int ((b : Int)))), some (.d (.int ((g : Int)))), some (.d (ad)), some (.d (hd)), some (.t [.d (.int am), flO f, nO F]), none, none]) (by
    generalize O.t [.d (.int am), flO f, nO F] = to at *
    simp [ft, shw, li, fx, nsm]) (t_nx ?_)
  refine t_set (o := .d (.str str)) (ω1 := [some (.d (.scr ns)), some (srcO s), some (.d (.int (sh))), some (.d (.bl far)), some (.d (.int (fm))), some (.d (.int ((n : Int)))), some (.d (.int ((b : Int)))), some (.d (.int ((g : Int)))), some (.d (ad)), some (.d (hd)), some (.t [.d (.int am), flO f, nO F]), none, none]) (ω2 := [some (.d (.scr ns)), some (srcO s), some (.d (.int (sh))), some (.d (.bl far)), some (.d (.int (fm))), some (.d (.int ((n : Int)))), some (.d (.int ((b : Int)))), some (.d (.int ((g : Int)))), some (.d (ad)), some (.d (hd)), some (.t [.d (.int am), flO f, nO F]), some (.d (.str str)), none]) (by
    generalize O.t [.d (.int am), flO f, nO F] = to at *
    simp [ft, gr]) (by simp only [List.set_cons_zero, List.set_cons_succ] <;> rfl) ?_
  refine t_set (o := .d (.int (F.length : Int))) (ω1 := [some (.d (.scr ns)), some (srcO s), some (.d (.int (sh))), some (.d (.bl far)), some (.d (.int (fm))), some (.d (.int ((n : Int)))), some (.d (.int ((b : Int)))), some (.d (.int ((g : Int)))), some (.d (ad)), some (.d (hd)), some (.t [.d (.int am), flO f, nO F]), some (.d (.str str)), none]) (ω2 := [some (.d (.scr ns)), some (srcO s), some (.d (.int (sh))), some (.d (.bl far)), some (.d (.int (fm))), some (.d (.int ((n : Int)))), some (.d (.int ((b : Int)))), some (.d (.int ((g : Int)))), some (.d (ad)), some (.d (hd)), some (.t [.d (.int am), flO f, nO F]), some (.d (.str str)), some (.d (.int ((F.length : Int))))]) (by
    generalize O.t [.d (.int am), flO f, nO F] = to at *
    simp [ft, t2, lF]) (by simp only [List.set_cons_zero, List.set_cons_succ] <;> rfl) ?_
  refine t_appT (os := [.d (.int am), flO f, nO F]) (os2 := f.map fun i => .d (.int i)) (ω2 := [some (.d (.scr ns)), some (srcO s), some (.d (.int (sh))), some (.d (.bl far)), some (.d (.int (fm))), some (.d (.int ((n : Int)))), some (.d (.int ((b : Int)))), some (.d (.int ((g : Int)))), some (.d (ad)), some (.d (hd)), some (.t [.d (.int am), .l ((f.map fun i => .d (.int i)) ++ [.d (.int (n : Int))]), nO F]), some (.d (.str str)), some (.d (.int ((F.length : Int))))]) rfl rfl (by rw [List.length_map]; simp only [sizeLine]; omega) (by
    generalize O.t [.d (.int am), flO f, nO F] = to at *
    simp) (by simp) rfl ?_
  have ft2 : frz (.t [.d (.int am), .l ((f.map fun i => .d (.int i)) ++ [.d (.int (n : Int))]), nO F]) = .tup [.int am, frz (.l ((f.map fun i => .d (.int i)) ++ [.d (.int (n : Int))])), nD F] := by
    generalize O.l ((f.map fun i => O.d (.int i)) ++ [.d (.int (n : Int))]) = p1
    simp [frz_n]
  have t22 : ∀ x y : D, gIx (.tup [x, y, nD F]) (.int 2) = some (.d (nD F)) := fun x y => rfl
  generalize O.l ((f.map fun i => O.d (.int i)) ++ [.d (.int (n : Int))]) = p1 at *
  have t22 := t22 (.int am) (frz p1)
  refine t_ifF (ω1 := [some (.d (.scr ns)), some (srcO s), some (.d (.int (sh))), some (.d (.bl far)), some (.d (.int (fm))), some (.d (.int ((n : Int)))), some (.d (.int ((b : Int)))), some (.d (.int ((g : Int)))), some (.d (ad)), some (.d (hd)), some (.t [.d (.int am), p1, nO F]), some (.d (.str str)), some (.d (.int ((F.length : Int))))]) (by
    generalize O.t [.d (.int am), p1, nO F] = to at *
    generalize D.tup [.int am, frz p1, nD F] = td2 at *
    simp [ft2, t22, lF]) (t_nx ?_)
  refine t_appT (os := [.d (.int am), p1, nO F]) (os2 := F.map fun k : Nat => .d (.int (k : Int))) (d := .int (0 - (n : Int))) (ω2 := [some (.d (.scr ns)), some (srcO s), some (.d (.int (sh))), some (.d (.bl far)), some (.d (.int (fm))), some (.d (.int ((n : Int)))), some (.d (.int ((b : Int)))), some (.d (.int ((g : Int)))), some (.d (ad)), some (.d (hd)), some (.t [.d (.int am), p1, .l ((F.map fun k : Nat => .d (.int (k : Int))) ++ [.d (.int (0 - (n : Int)))])]), some (.d (.str str)), some (.d (.int ((F.length : Int))))]) rfl rfl (by rw [List.length_map]; simp only [sizeLine]; omega) (by
    generalize O.t [.d (.int am), p1, nO F] = to at *
    simp) (by simp) rfl ?_
  generalize O.l ((F.map fun k : Nat => O.d (.int (k : Int))) ++ [.d (.int (0 - (n : Int)))]) = p2 at *
  refine t_ret (o := .d (.bl true)) (ω1 := [some (.d (.scr ns)), some (srcO s), some (.d (.int (sh))), some (.d (.bl far)), some (.d (.int (fm))), some (.d (.int ((n : Int)))), some (.d (.int ((b : Int)))), some (.d (.int ((g : Int)))), some (.d (ad)), some (.d (hd)), some (.t [.d (.int am), p1, p2]), some (.d (.str str)), some (.d (.int ((F.length : Int))))]) ?_ rfl
  have vd : viewD [some (.d (.scr ns)), some (srcO s), some (.d (.int (sh))), some (.d (.bl far)), some (.d (.int (fm))), some (.d (.int ((n : Int)))), some (.d (.int ((b : Int)))), some (.d (.int ((g : Int)))), some (.d (ad)), some (.d (hd)), some (.t [.d (.int am), p1, p2]), some (.d (.str str)), some (.d (.int ((F.length : Int))))] = viewD [some (.d (.scr ns)), some (srcO s), some (.d (.int (sh))), some (.d (.bl far)), some (.d (.int (fm))), some (.d (.int ((n : Int)))), some (.d (.int ((b : Int)))), some (.d (.int ((g : Int)))), some (.d (ad)), some (.d (hd)), none, some (.d (.str str)), some (.d (.int ((F.length : Int))))] := rfl
  rw [eoD_ap, liD_ap, vd]
  generalize O.t [.d (.int am), flO f, nO F] = to at *
  simp [viewD_x, ho, fz, eg, ft, gr, eqs]
end Lw.Fo
theorem Lw.law_true (ns : List Int) (h : ns.length ≤ 63) : Lw.v_law [.scr ns] = .ok (.d (.bl true)) := Lw.Fo.law_true ns h
namespace Lw
open PySem PySem.Spec PyProof.Rows L2 FL VL
def pfile : Str := PySem.Challenge.pw_counthall_k41_greatest_flow.main.file
structure PF (P : Program) : Prop where
  file : P.main.file = pfile
  top : (P.main.scope.names.lookup ("super" : Str)).isSome = false
structure Tx (K : Frg) (mg : Str → Option Value) : Prop where
  g_steps_from : mg "steps_from" = some (.ref (He.ga K "steps_from"))
  d_steps_from : ∃ fd, FunD K "steps_from" "steps_from" (defArgs (top 1)) (defBody (top 1)) (defScope (top 1)) [] [] (He.ga K "steps_from") fd
  g_room_left : mg "room_left" = some (.ref (He.ga K "room_left"))
  d_room_left : ∃ fd, FunD K "room_left" "room_left" (defArgs (top 2)) (defBody (top 2)) (defScope (top 2)) [] [] (He.ga K "room_left") fd
  g_way_back : mg "way_back" = some (.ref (He.ga K "way_back"))
  d_way_back : ∃ fd, FunD K "way_back" "way_back" (defArgs (top 4)) (defBody (top 4)) (defScope (top 4)) [] [] (He.ga K "way_back") fd
  g_net_out : mg "net_out" = some (.ref (He.ga K "net_out"))
  d_net_out : ∃ fd, FunD K "net_out" "net_out" (defArgs (top 5)) (defBody (top 5)) (defScope (top 5)) [] [] (He.ga K "net_out") fd
  g_l_source : mg "_law_source" = some (.ref (He.ga K "_law_source"))
  d_l_source : ∃ fd, FunD K "_law_source" "_law_source" (defArgs (top 8)) (defBody (top 8)) (defScope (top 8)) [] [] (He.ga K "_law_source") fd
  g_l_draw : mg "_law_draw" = some (.ref (He.ga K "_law_draw"))
  d_l_draw : ∃ fd, FunD K "_law_draw" "_law_draw" (defArgs (top 9)) (defBody (top 9)) (defScope (top 9)) [] [] (He.ga K "_law_draw") fd
  g_l_whole : mg "_law_whole" = some (.ref (He.ga K "_law_whole"))
  d_l_whole : ∃ fd, FunD K "_law_whole" "_law_whole" (defArgs (top 10)) (defBody (top 10)) (defScope (top 10)) [] [] (He.ga K "_law_whole") fd
  g_l_handed : mg "_law_handed" = some (.ref (He.ga K "_law_handed"))
  d_l_handed : ∃ fd, FunD K "_law_handed" "_law_handed" (defArgs (top 18)) (defBody (top 18)) (defScope (top 18)) [] [] (He.ga K "_law_handed") fd
  g_l_ascends : mg "_law_ascends" = some (.ref (He.ga K "_law_ascends"))
  d_l_ascends : ∃ fd, FunD K "_law_ascends" "_law_ascends" (defArgs (top 19)) (defBody (top 19)) (defScope (top 19)) [] [] (He.ga K "_law_ascends") fd
  g_l_flow : mg "_law_flow" = some (.ref (He.ga K "_law_flow"))
  d_l_flow : ∃ fd, FunD K "_law_flow" "_law_flow" (defArgs (top 20)) (defBody (top 20)) (defScope (top 20)) [] [] (He.ga K "_law_flow") fd
  g_reached_from : mg "reached_from" = some (.ref (He.ga K "reached_from"))
  d_reached_from : ∃ fd, FunD K "reached_from" "reached_from" (defArgs (top 3)) (defBody (top 3)) (defScope (top 3)) [] [] (He.ga K "reached_from") fd
  g_l_wholes : mg "_law_wholes" = some (.ref (He.ga K "_law_wholes"))
  d_l_wholes : ∃ fd, FunD K "_law_wholes" "_law_wholes" (defArgs (top 11)) (defBody (top 11)) (defScope (top 11)) [] [] (He.ga K "_law_wholes") fd
  g_l_capacity : mg "_law_capacity" = some (.ref (He.ga K "_law_capacity"))
  d_l_capacity : ∃ fd, FunD K "_law_capacity" "_law_capacity" (defArgs (top 12)) (defBody (top 12)) (defScope (top 12)) [] [] (He.ga K "_law_capacity") fd
  g_l_other : mg "_law_other" = some (.ref (He.ga K "_law_other"))
  d_l_other : ∃ fd, FunD K "_law_other" "_law_other" (defArgs (top 13)) (defBody (top 13)) (defScope (top 13)) [] [] (He.ga K "_law_other") fd
  g_greatest_flow : mg "greatest_flow" = some (.ref (He.ga K "greatest_flow"))
  d_greatest_flow : ∃ fd, FunD K "greatest_flow" "greatest_flow" (defArgs (top 6)) (defBody (top 6)) (defScope (top 6)) [] [] (He.ga K "greatest_flow") fd
  g_l_exchange : mg "_law_exchange" = some (.ref (He.ga K "_law_exchange"))
  d_l_exchange : ∃ fd, FunD K "_law_exchange" "_law_exchange" (defArgs (top 14)) (defBody (top 14)) (defScope (top 14)) [] [] (He.ga K "_law_exchange") fd
  g_l_ways : mg "_law_ways" = some (.ref (He.ga K "_law_ways"))
  d_l_ways : ∃ fd, FunD K "_law_ways" "_law_ways" (defArgs (top 15)) (defBody (top 15)) (defScope (top 15)) [] [] (He.ga K "_law_ways") fd
  g_l_more : mg "_law_more" = some (.ref (He.ga K "_law_more"))
  d_l_more : ∃ fd, FunD K "_law_more" "_law_more" (defArgs (top 16)) (defBody (top 16)) (defScope (top 16)) [] [] (He.ga K "_law_more") fd
  g_l_shows : mg "_law_shows" = some (.ref (He.ga K "_law_shows"))
  d_l_shows : ∃ fd, FunD K "_law_shows" "_law_shows" (defArgs (top 21)) (defBody (top 21)) (defScope (top 21)) [] [] (He.ga K "_law_shows") fd
  g_l_net : mg "_law_net" = some (.ref (He.ga K "_law_net"))
  d_l_net : ∃ fd, FunD K "_law_net" "_law_net" (defArgs (top 17)) (defBody (top 17)) (defScope (top 17)) [] [] (He.ga K "_law_net") fd
  g_law : mg "law" = some (.ref (He.ga K "law"))
  d_law : ∃ fd, FunD K "law" "law" (defArgs (top 22)) (defBody (top 22)) (defScope (top 22)) [] [] (He.ga K "law") fd
  b_abs : mg "abs" = none
  b_bool : mg "bool" = none
  b_int : mg "int" = none
  b_isinstance : mg "isinstance" = none
  b_len : mg "len" = none
  b_list : mg "list" = none
  b_max : mg "max" = none
  b_min : mg "min" = none
  b_range : mg "range" = none
  b_repr : mg "repr" = none
  b_tuple : mg "tuple" = none
abbrev s_steps_from : Stmt := top 1
abbrev nm_steps_from : List Str := ["size", "arcs", "steps", "node", "index"]
theorem sc_steps_from : FnScope nm_steps_from ["size", "arcs"] (defScope s_steps_from) := sc_mk rfl rfl rfl (by decide +kernel) rfl (by decide +kernel) (by decide +kernel)
theorem ok_steps_from {P : Program} {w : World} {K : Frg} {mg : Str → Option Value} (T : Tx K mg)  : OkP P w K mg 1 "steps_from" ["size", "arcs"] v_steps_from := by
  have sc := sc_steps_from
  refine mkP (N := nm_steps_from) (g := cSeq (cSet 2 (loD (cComp (iP kRange1 (aCons (cV 0) (aNil))) (hN 3) (cYes) (cLst (oNil)) [3])))
      (cSeq (cFor (iX kRange1 (eaCons (liD (cCB gLenA (aCons (cV 1) (aNil)))) (eaNil))) (gN 4) (cSeq (cAppP (pIx (pV 2) (cBin gIx (cBin gIx (cV 1) (cV 4)) (cK (.int 0)))) (cTup (aCons (cV 4) (aCons (cBin gIx (cBin gIx (cV 1) (cV 4)) (cK (.int 1))) (aCons (cK (.int 1)) (aNil))))))
      (cAppP (pIx (pV 2) (cBin gIx (cBin gIx (cV 1) (cV 4)) (cK (.int 1)))) (cTup (aCons (cV 4) (aCons (cBin gIx (cBin gIx (cV 1) (cV 4)) (cK (.int 0))) (aCons (cNeg (cK (.int 1))) (aNil))))))) [4])
      (cRet (cMv 2)))) T.d_steps_from T.g_steps_from sc (fun _ _ _ _ _ _ us hl => match us, hl with | [_, _], _ => rfl) fun base cdv A outer s H E hr => ?_
  exact ss_cons (s_setLcP 2 (fun _ _ _ h => loD_rd h) (own := [("node", 3)]) rfl sc.nd (sw_true rfl rfl rfl (by decide +kernel)) (ip_range1 (by rfl) T.b_range (a_cons (nv 0) (a_nil))) (blkOk_by (N := nm_steps_from) (sc := defScope s_steps_from) (by decide +kernel)) (fun _ _ _ _ _ => hp_name 3 sc.nd) (fun _ _ _ _ _ => pts_yes) (fun _ _ _ _ _ => o_lst (os_nil)))
      (ss_cons (s_for [4] PassesOwn.never rfl (ix_range1 (by rfl) T.b_range (ea_cons (e_D (p_callB v_lenA (by rfl) T.b_len (by decide +kernel) (a_cons (nv 1) (a_nil)))) (ea_nil))) (gv_name 4 sc.nd) (ss_cons (s_appP (lp_ix (lp_v 2) (p_ix (p_ix (nv 1) (nv 4)) (p_int))) (p_tup (a_cons (nv 4) (a_cons (p_ix (p_ix (nv 1) (nv 4)) (p_int)) (a_cons (p_int) (a_nil))))))
      (ss_one (s_appP (lp_ix (lp_v 2) (p_ix (p_ix (nv 1) (nv 4)) (p_int))) (p_tup (a_cons (nv 4) (a_cons (p_ix (p_ix (nv 1) (nv 4)) (p_int)) (a_cons (p_neg (p_int)) (a_nil)))))))))
      (ss_one (s_ret (o_mv 2))))
abbrev s_room_left : Stmt := top 2
abbrev nm_room_left : List Str := ["arcs", "flows", "index", "sign"]
theorem sc_room_left : FnScope nm_room_left ["arcs", "flows", "index", "sign"] (defScope s_room_left) := sc_mk rfl rfl rfl (by decide +kernel) rfl (by decide +kernel) (by decide +kernel)
theorem ok_room_left {P : Program} {w : World} {K : Frg} {mg : Str → Option Value} (T : Tx K mg)  : OkP P w K mg 1 "room_left" ["arcs", "flows", "index", "sign"] v_room_left := by
  have sc := sc_room_left
  refine mkP (N := nm_room_left) (g := cSeq (cIfS (lbA (cB (cBin gEq (cV 3) (cK (.int 1))))) (cRet (eoD (liD (cBin gSub (cBin gIx (cBin gIx (cV 0) (cV 2)) (cK (.int 2))) (cBin gIx (cV 1) (cV 2)))))) (cNx))
      (cRet (eoD (liD (cBin gIx (cV 1) (cV 2)))))) T.d_room_left T.g_room_left sc (fun _ _ _ _ _ _ us hl => match us, hl with | [_, _, _, _], _ => rfl) fun base cdv A outer s H E hr => ?_
  exact ss_cons (s_if (b_A (b_cmp (v_eq hr.units) (nv 3) (p_int) (nomark _))) (ss_one (s_ret (o_V (e_D (p_op v_sub (p_ix (p_ix (nv 0) (nv 2)) (p_int)) (p_ix (nv 1) (nv 2))))))) (ss_nil))
      (ss_one (s_ret (o_V (e_D (p_ix (nv 1) (nv 2))))))
abbrev s_way_back : Stmt := top 4
abbrev nm_way_back : List Str := ["reached", "goal", "way", "before", "index", "sign"]
theorem sc_way_back : FnScope nm_way_back ["reached", "goal"] (defScope s_way_back) := sc_mk rfl rfl rfl (by decide +kernel) rfl (by decide +kernel) (by decide +kernel)
theorem ok_way_back {P : Program} {w : World} {K : Frg} {mg : Str → Option Value} (T : Tx K mg)  : OkP P w K mg 1 "way_back" ["reached", "goal"] v_way_back := by
  have sc := sc_way_back
  refine mkP (N := nm_way_back) (g := cSeq (cSet 2 (loD (cLst (oNil))))
      (cSeq (cAsgT (gT 3 (gCons (gN 3) (gCons (gN 4) (gCons (gN 5) (gNil))))) (liD (cBin gIx (cV 0) (cV 1))))
      (cSeq (loopW (lbA (cB (cBin gGe (cV 4) (cK (.int 0))))) (cSeq (cApp 2 (eoD (liD (cTup (aCons (cV 4) (aCons (cV 5) (aNil)))))))
      (cAsgT (gT 3 (gCons (gN 3) (gCons (gN 4) (gCons (gN 5) (gNil))))) (liD (cBin gIx (cV 0) (cV 3))))) [] 100000)
      (cRet (cMv 2))))) T.d_way_back T.g_way_back sc (fun _ _ _ _ _ _ us hl => match us, hl with | [_, _], _ => rfl) fun base cdv A outer s H E hr => ?_
  exact ss_cons (s_set 2 (o_D (o_lst (os_nil))) sc.nd)
      (ss_cons (s_asgT (e_D (p_ix (nv 0) (nv 1))) (gv_tup rfl (gvs_cons (gv_name 3 sc.nd) (gvs_cons (gv_name 4 sc.nd) (gvs_cons (gv_name 5 sc.nd) (gvs_nil))))))
      (ss_cons (s_while 100000 [] PassesOwn.never (b_A (b_cmp v_ge (nv 4) (p_int) (nomark _))) (ss_cons (s_app 2 (o_V (e_D (p_tup (a_cons (nv 4) (a_cons (nv 5) (a_nil)))))))
      (ss_one (s_asgT (e_D (p_ix (nv 0) (nv 3))) (gv_tup rfl (gvs_cons (gv_name 3 sc.nd) (gvs_cons (gv_name 4 sc.nd) (gvs_cons (gv_name 5 sc.nd) (gvs_nil)))))))))
      (ss_one (s_ret (o_mv 2)))))
abbrev s_net_out : Stmt := top 5
abbrev nm_net_out : List Str := ["arcs", "flows", "node", "amount", "index"]
theorem sc_net_out : FnScope nm_net_out ["arcs", "flows", "node"] (defScope s_net_out) := sc_mk rfl rfl rfl (by decide +kernel) rfl (by decide +kernel) (by decide +kernel)
theorem ok_net_out {P : Program} {w : World} {K : Frg} {mg : Str → Option Value} (T : Tx K mg)  : OkP P w K mg 1 "net_out" ["arcs", "flows", "node"] v_net_out := by
  have sc := sc_net_out
  refine mkP (N := nm_net_out) (g := cSeq (cSet 3 (eoD (liD (cK (.int 0)))))
      (cSeq (cFor (iX kRange1 (eaCons (liD (cCB gLenA (aCons (cV 0) (aNil)))) (eaNil))) (gN 4) (cSeq (cIfS (lbA (cB (cBin gEq (cBin gIx (cBin gIx (cV 0) (cV 4)) (cK (.int 0))) (cV 2)))) (cAug 3 gAddI (liD (cBin gIx (cV 1) (cV 4)))) (cNx))
      (cIfS (lbA (cB (cBin gEq (cBin gIx (cBin gIx (cV 0) (cV 4)) (cK (.int 1))) (cV 2)))) (cAug 3 gSub (liD (cBin gIx (cV 1) (cV 4)))) (cNx))) [4])
      (cRet (eoD (liD (cV 3)))))) T.d_net_out T.g_net_out sc (fun _ _ _ _ _ _ us hl => match us, hl with | [_, _, _], _ => rfl) fun base cdv A outer s H E hr => ?_
  exact ss_cons (s_set 3 (o_V (e_D (p_int))) sc.nd)
      (ss_cons (s_for [4] PassesOwn.never rfl (ix_range1 (by rfl) T.b_range (ea_cons (e_D (p_callB v_lenA (by rfl) T.b_len (by decide +kernel) (a_cons (nv 0) (a_nil)))) (ea_nil))) (gv_name 4 sc.nd) (ss_cons (s_if (b_A (b_cmp (v_eq hr.units) (p_ix (p_ix (nv 0) (nv 4)) (p_int)) (nv 2) (nomark _))) (ss_one (s_aug 3 iv_addI (e_D (p_ix (nv 1) (nv 4))) sc.nd)) (ss_nil))
      (ss_one (s_if (b_A (b_cmp (v_eq hr.units) (p_ix (p_ix (nv 0) (nv 4)) (p_int)) (nv 2) (nomark _))) (ss_one (s_aug 3 iv_subI (e_D (p_ix (nv 1) (nv 4))) sc.nd)) (ss_nil)))))
      (ss_one (s_ret (o_V (e_D (nv 3))))))
abbrev s_l_source : Stmt := top 8
abbrev nm_l_source : List Str := ["_law_script", "_law_place"]
theorem sc_l_source : FnScope nm_l_source ["_law_script", "_law_place"] (defScope s_l_source) := sc_mk rfl rfl rfl (by decide +kernel) rfl (by decide +kernel) (by decide +kernel)
theorem ok_l_source {P : Program} {w : World} {K : Frg} {mg : Str → Option Value} (T : Tx K mg)  : OkP P w K mg 1 "_law_source" ["_law_script", "_law_place"] v_l_source := by
  have sc := sc_l_source
  refine mkP (N := nm_l_source) (g := cSeq (cIfS (lbA (cB (cBin gLt (cV 1) (cCB gLenA (aCons (cV 0) (aNil)))))) (cRet (loD (cLst (oCons (cCBO gAbs (aCons (cBin gIx (cV 0) (cV 1)) (aNil))) (oCons (oD (cV 1)) (oNil)))))) (cNx))
      (cSeq (cIfS (lbA (cB (cBin gEq (cCB gLenA (aCons (cV 0) (aNil))) (cK (.int 0))))) (cRet (loD (cLst (oCons (oD (cBin gAdd (cBin gMul (cK (.int 1009)) (cV 1)) (cK (.int 17)))) (oCons (oD (cV 1)) (oNil)))))) (cNx))
      (cRet (loD (cLst (oCons (oD (cBin gAdd (cBin gAdd (cBin gMul (cK (.int 31)) (cCB gAbs (aCons (cBin gIx (cV 0) (cBin gMod (cCB gInt (aCons (cV 1) (aNil))) (cCB gLenA (aCons (cV 0) (aNil))))) (aNil)))) (cBin gMul (cK (.int 1009)) (cV 1))) (cK (.int 17)))) (oCons (oD (cV 1)) (oNil)))))))) T.d_l_source T.g_l_source sc (fun _ _ _ _ _ _ us hl => match us, hl with | [_, _], _ => rfl) fun base cdv A outer s H E hr => ?_
  exact ss_cons (s_if (b_A (b_cmp v_lt (nv 1) (p_callB v_lenA (by rfl) T.b_len (by decide +kernel) (a_cons (nv 0) (a_nil))) (nomark _))) (ss_one (s_ret (o_D (o_lst (os_cons (o_callB v_abs (by rfl) T.b_abs (by decide +kernel) (a_cons (p_ix (nv 0) (nv 1)) (a_nil))) (os_cons ((nv 1).po) (os_nil))))))) (ss_nil))
      (ss_cons (s_if (b_A (b_cmp (v_eq hr.units) (p_callB v_lenA (by rfl) T.b_len (by decide +kernel) (a_cons (nv 0) (a_nil))) (p_int) (nomark _))) (ss_one (s_ret (o_D (o_lst (os_cons ((p_op v_add (p_op v_mul (p_int) (nv 1)) (p_int)).po) (os_cons ((nv 1).po) (os_nil))))))) (ss_nil))
      (ss_one (s_ret (o_D (o_lst (os_cons ((p_op v_add (p_op v_add (p_op v_mul (p_int) (p_callB v_abs (by rfl) T.b_abs (by decide +kernel) (a_cons (p_ix (nv 0) (p_op v_mod (p_callTy v_int (by rfl) T.b_int (by decide +kernel) (a_cons (nv 1) (a_nil))) (p_callB v_lenA (by rfl) T.b_len (by decide +kernel) (a_cons (nv 0) (a_nil))))) (a_nil)))) (p_op v_mul (p_int) (nv 1))) (p_int)).po) (os_cons ((nv 1).po) (os_nil))))))))
abbrev s_l_draw : Stmt := top 9
abbrev nm_l_draw : List Str := ["_law_source_here", "_law_size", "_law_cell", "_law_mixed"]
theorem sc_l_draw : FnScope nm_l_draw ["_law_source_here", "_law_size"] (defScope s_l_draw) := sc_mk rfl rfl rfl (by decide +kernel) rfl (by decide +kernel) (by decide +kernel)
theorem ok_l_draw {P : Program} {w : World} {K : Frg} {mg : Str → Option Value} (T : Tx K mg)  : OkM P w K mg 1 "_law_draw" ["_law_source_here", "_law_size"] [0] v_l_draw := by
  have sc := sc_l_draw
  refine mkM (N := nm_l_draw) (g := cSeq (cSet 2 (eoD (liA (cBin gIx (cV 0) (cK (.int 0))))))
      (cSeq (cIfS (lbA (cB (cBin gGe (cV 2) (cBin gPow (cK (.int 10)) (cK (.int 18)))))) (cSeq (cSub (pV 0) (cK (.int 0)) (eoD (liD (cBin gDiv (cV 2) (cV 1)))))
      (cRet (eoD (liD (cBin gMod (cCB gInt (aCons (cV 2) (aNil))) (cV 1)))))) (cNx))
      (cSeq (cSub (pV 0) (cK (.int 1)) (eoD (liA (cBin gAdd (cBin gIx (cV 0) (cK (.int 1))) (cK (.int 1))))))
      (cSeq (cSet 3 (eoD (liA (cBin gMod (cCB gInt (aCons (cBin gAdd (cBin gAdd (cV 2) (cBin gMul (cK (.int 7919)) (cBin gIx (cV 0) (cK (.int 1))))) (cK (.int 13))) (aNil))) (cK (.int 2147483647))))))
      (cSeq (cSet 3 (eoD (liD (cBin gMod (cCB gInt (aCons (cBin gMul (cV 3) (cBin gAdd (cV 3) (cK (.int 48271)))) (aNil))) (cK (.int 2147483629))))))
      (cSeq (cSet 3 (eoD (liA (cBin gMod (cCB gInt (aCons (cBin gAdd (cBin gMul (cV 3) (cBin gAdd (cV 3) (cK (.int 69621)))) (cBin gMul (cK (.int 31)) (cBin gIx (cV 0) (cK (.int 1))))) (aNil))) (cK (.int 2147483647))))))
      (cRet (eoD (liD (cBin gMod (cCB gInt (aCons (cBin gDiv (cV 3) (cK (.int 9))) (aNil))) (cV 1))))))))))) (Pn := [0]) T.d_l_draw T.g_l_draw sc (by decide) (fun _ _ _ _ _ _ us hl => match us, hl with | [_, _], _ => rfl) fun base cdv A outer s H E hr => ?_
  exact ss_cons (s_set 2 (o_V (e_A (p_ix (nv 0) (p_int)))) sc.nd)
      (ss_cons (s_if (b_A (b_cmp v_ge (nv 2) (p_op v_pow (p_int) (p_int)) (nomark _))) (ss_cons (s_sub (o_V (e_D (p_op v_div (nv 2) (nv 1)))) (lp_v 0) (p_int))
      (ss_one (s_ret (o_V (e_D (p_op v_mod (p_callTy v_int (by rfl) T.b_int (by decide +kernel) (a_cons (nv 2) (a_nil))) (nv 1))))))) (ss_nil))
      (ss_cons (s_sub (o_V (e_A (p_op v_add (p_ix (nv 0) (p_int)) (p_int)))) (lp_v 0) (p_int))
      (ss_cons (s_set 3 (o_V (e_A (p_op v_mod (p_callTy v_int (by rfl) T.b_int (by decide +kernel) (a_cons (p_op v_add (p_op v_add (nv 2) (p_op v_mul (p_int) (p_ix (nv 0) (p_int)))) (p_int)) (a_nil))) (p_int)))) sc.nd)
      (ss_cons (s_set 3 (o_V (e_D (p_op v_mod (p_callTy v_int (by rfl) T.b_int (by decide +kernel) (a_cons (p_op v_mul (nv 3) (p_op v_add (nv 3) (p_int))) (a_nil))) (p_int)))) sc.nd)
      (ss_cons (s_set 3 (o_V (e_A (p_op v_mod (p_callTy v_int (by rfl) T.b_int (by decide +kernel) (a_cons (p_op v_add (p_op v_mul (nv 3) (p_op v_add (nv 3) (p_int))) (p_op v_mul (p_int) (p_ix (nv 0) (p_int)))) (a_nil))) (p_int)))) sc.nd)
      (ss_one (s_ret (o_V (e_D (p_op v_mod (p_callTy v_int (by rfl) T.b_int (by decide +kernel) (a_cons (p_op v_div (nv 3) (p_int)) (a_nil))) (nv 1)))))))))))
abbrev s_l_whole : Stmt := top 10
abbrev nm_l_whole : List Str := ["_law_actual"]
theorem sc_l_whole : FnScope nm_l_whole ["_law_actual"] (defScope s_l_whole) := sc_mk rfl rfl rfl (by decide +kernel) rfl (by decide +kernel) (by decide +kernel)
theorem ok_l_whole {P : Program} {w : World} {K : Frg} {mg : Str → Option Value} (T : Tx K mg)  : OkP P w K mg 1 "_law_whole" ["_law_actual"] v_l_whole := by
  have sc := sc_l_whole
  refine mkP (N := nm_l_whole) (g := cRet (eoD (liD (cAndV (cCB gIsi (aCons (cV 0) (aCons (cK (.ty "int")) (aNil)))) (cBV (cNot (cB (cCB gIsi (aCons (cV 0) (aCons (cK (.ty "bool")) (aNil))))))))))) T.d_l_whole T.g_l_whole sc (fun _ _ _ _ _ _ us hl => match us, hl with | [_], _ => rfl) fun base cdv A outer s H E hr => ?_
  exact ss_one (s_ret (o_V (e_D (p_and (p_callB v_isi (by rfl) T.b_isinstance (by decide +kernel) (a_cons (nv 0) (a_cons (p_ty (by rfl) T.b_int (by decide +kernel) rfl) (a_nil)))) (p_one (p_not (p_callB v_isi (by rfl) T.b_isinstance (by decide +kernel) (a_cons (nv 0) (a_cons (p_ty (by rfl) T.b_bool (by decide +kernel) rfl) (a_nil))))))))))
abbrev s_l_handed : Stmt := top 18
abbrev nm_l_handed : List Str := ["_law_form", "_law_rows"]
theorem sc_l_handed : FnScope nm_l_handed ["_law_form", "_law_rows"] (defScope s_l_handed) := sc_mk rfl rfl rfl (by decide +kernel) rfl (by decide +kernel) (by decide +kernel)
theorem ok_l_handed {P : Program} {w : World} {K : Frg} {mg : Str → Option Value} (T : Tx K mg)  : OkP P w K mg 1 "_law_handed" ["_law_form", "_law_rows"] v_l_handed := by
  have sc := sc_l_handed
  refine mkP (N := nm_l_handed) (g := cSeq (cIfS (lbA (cB (cBin gEq (cV 0) (cK (.int 1))))) (cRet (eoD (liD (cCB gTuple (aCons (cV 1) (aNil)))))) (cNx))
      (cRet (loD (cCBO gList (aCons (cV 1) (aNil)))))) T.d_l_handed T.g_l_handed sc (fun _ _ _ _ _ _ us hl => match us, hl with | [_, _], _ => rfl) fun base cdv A outer s H E hr => ?_
  exact ss_cons (s_if (b_A (b_cmp (v_eq hr.units) (nv 0) (p_int) (nomark _))) (ss_one (s_ret (o_V (e_D (p_callTy v_tuple (by rfl) T.b_tuple (by decide +kernel) (a_cons (nv 1) (a_nil))))))) (ss_nil))
      (ss_one (s_ret (o_D (o_callTy (v_list rfl) (by rfl) T.b_list (by decide +kernel) (a_cons (nv 1) (a_nil))))))
abbrev s_l_ascends : Stmt := top 19
abbrev nm_l_ascends : List Str := ["_law_nodes", "_law_size", "_law_before", "_law_node"]
theorem sc_l_ascends : FnScope nm_l_ascends ["_law_nodes", "_law_size"] (defScope s_l_ascends) := sc_mk rfl rfl rfl (by decide +kernel) rfl (by decide +kernel) (by decide +kernel)
theorem ok_l_ascends {P : Program} {w : World} {K : Frg} {mg : Str → Option Value} (T : Tx K mg)  : OkP P w K mg 1 "_law_ascends" ["_law_nodes", "_law_size"] v_l_ascends := by
  have sc := sc_l_ascends
  refine mkP (N := nm_l_ascends) (g := cSeq (cSet 2 (eoD (liD (cNeg (cK (.int 1))))))
      (cSeq (cFor (iSX (liD (cV 0))) (gN 3) (cSeq (cIfS (lbA (cOr (cB (cBin gLe (cV 3) (cV 2))) (cB (cBin gGe (cV 3) (cV 1))))) (cRet (eoD (liD (cK (.bl false))))) (cNx))
      (cSet 2 (eoD (liD (cV 3))))) [3])
      (cRet (eoD (liD (cK (.bl true))))))) T.d_l_ascends T.g_l_ascends sc (fun _ _ _ _ _ _ us hl => match us, hl with | [_, _], _ => rfl) fun base cdv A outer s H E hr => ?_
  exact ss_cons (s_set 2 (o_V (e_D (p_neg (p_int)))) sc.nd)
      (ss_cons (s_for [3] PassesOwn.never rfl (ix_seq (e_D (nv 0))) (gv_name 3 sc.nd) (ss_cons (s_if (b_A (b_w (w_or (b_cmp v_le (nv 3) (nv 2) (nomark _)) (w_or1 (b_cmp v_ge (nv 3) (nv 1) (nomark _)))))) (ss_one (s_ret (o_V (e_D (p_bl))))) (ss_nil))
      (ss_one (s_set 2 (o_V (e_D (nv 3))) sc.nd))))
      (ss_one (s_ret (o_V (e_D (p_bl))))))
abbrev s_l_flow : Stmt := top 20
abbrev nm_l_flow : List Str := ["_law_size", "_law_arcs", "_law_begin", "_law_goal", "_law_flows", "_law_out", "_law_node", "_law_index"]
theorem sc_l_flow : FnScope nm_l_flow ["_law_size", "_law_arcs", "_law_begin", "_law_goal", "_law_flows"] (defScope s_l_flow) := sc_mk rfl rfl rfl (by decide +kernel) rfl (by decide +kernel) (by decide +kernel)
theorem ok_l_flow {P : Program} {w : World} {K : Frg} {mg : Str → Option Value} (T : Tx K mg)  : OkP P w K mg 1 "_law_flow" ["_law_size", "_law_arcs", "_law_begin", "_law_goal", "_law_flows"] v_l_flow := by
  have sc := sc_l_flow
  refine mkP (N := nm_l_flow) (g := cSeq (cIfS (lbA (cB (cBin gNe (cCB gLenA (aCons (cV 4) (aNil))) (cCB gLenA (aCons (cV 1) (aNil)))))) (cRet (eoD (liD (cK .non)))) (cNx))
      (cSeq (cSet 5 (loD (cComp (iP kRange1 (aCons (cV 0) (aNil))) (hN 6) (cYes) (oD (cK (.int 0))) [6])))
      (cSeq (cFor (iX kRange1 (eaCons (liD (cCB gLenA (aCons (cV 1) (aNil)))) (eaNil))) (gN 7) (cSeq (cIfS (lbA (cOr (cB (cBin gLt (cBin gIx (cV 4) (cV 7)) (cK (.int 0)))) (cB (cBin gGt (cBin gIx (cV 4) (cV 7)) (cBin gIx (cBin gIx (cV 1) (cV 7)) (cK (.int 2))))))) (cRet (eoD (liD (cK .non)))) (cNx))
      (cSeq (cSub (pV 5) (cBin gIx (cBin gIx (cV 1) (cV 7)) (cK (.int 0))) (eoD (liA (cBin gAdd (cBin gIx (cV 5) (cBin gIx (cBin gIx (cV 1) (cV 7)) (cK (.int 0)))) (cBin gIx (cV 4) (cV 7))))))
      (cSub (pV 5) (cBin gIx (cBin gIx (cV 1) (cV 7)) (cK (.int 1))) (eoD (liA (cBin gSub (cBin gIx (cV 5) (cBin gIx (cBin gIx (cV 1) (cV 7)) (cK (.int 1)))) (cBin gIx (cV 4) (cV 7)))))))) [7])
      (cSeq (cFor (iX kRange1 (eaCons (liD (cV 0)) (eaNil))) (gN 6) (cIfS (lbA (cAnd (cB (cBin gNe (cV 6) (cV 2))) (cAnd (cB (cBin gNe (cV 6) (cV 3))) (cB (cBin gNe (cBin gIx (cV 5) (cV 6)) (cK (.int 0))))))) (cRet (eoD (liD (cK .non)))) (cNx)) [6])
      (cRet (eoD (liA (cBin gIx (cV 5) (cV 2))))))))) T.d_l_flow T.g_l_flow sc (fun _ _ _ _ _ _ us hl => match us, hl with | [_, _, _, _, _], _ => rfl) fun base cdv A outer s H E hr => ?_
  exact ss_cons (s_if (b_A (b_cmp (v_ne hr.units) (p_callB v_lenA (by rfl) T.b_len (by decide +kernel) (a_cons (nv 4) (a_nil))) (p_callB v_lenA (by rfl) T.b_len (by decide +kernel) (a_cons (nv 1) (a_nil))) (nomark _))) (ss_one (s_ret (o_V (e_D (p_non))))) (ss_nil))
      (ss_cons (s_setLcP 5 (fun _ _ _ h => loD_rd h) (own := [("_law_node", 6)]) rfl sc.nd (sw_true rfl rfl rfl (by decide +kernel)) (ip_range1 (by rfl) T.b_range (a_cons (nv 0) (a_nil))) (blkOk_by (N := nm_l_flow) (sc := defScope s_l_flow) (by decide +kernel)) (fun _ _ _ _ _ => hp_name 6 sc.nd) (fun _ _ _ _ _ => pts_yes) (fun _ _ _ _ _ => (p_int).po))
      (ss_cons (s_for [7] PassesOwn.never rfl (ix_range1 (by rfl) T.b_range (ea_cons (e_D (p_callB v_lenA (by rfl) T.b_len (by decide +kernel) (a_cons (nv 1) (a_nil)))) (ea_nil))) (gv_name 7 sc.nd) (ss_cons (s_if (b_A (b_w (w_or (b_cmp v_lt (p_ix (nv 4) (nv 7)) (p_int) (nomark _)) (w_or1 (b_cmp v_gt (p_ix (nv 4) (nv 7)) (p_ix (p_ix (nv 1) (nv 7)) (p_int)) (nomark _)))))) (ss_one (s_ret (o_V (e_D (p_non))))) (ss_nil))
      (ss_cons (s_sub (o_V (e_A (p_op v_add (p_ix (nv 5) (p_ix (p_ix (nv 1) (nv 7)) (p_int))) (p_ix (nv 4) (nv 7))))) (lp_v 5) (p_ix (p_ix (nv 1) (nv 7)) (p_int)))
      (ss_one (s_sub (o_V (e_A (p_op v_sub (p_ix (nv 5) (p_ix (p_ix (nv 1) (nv 7)) (p_int))) (p_ix (nv 4) (nv 7))))) (lp_v 5) (p_ix (p_ix (nv 1) (nv 7)) (p_int)))))))
      (ss_cons (s_for [6] PassesOwn.never rfl (ix_range1 (by rfl) T.b_range (ea_cons (e_D (nv 0)) (ea_nil))) (gv_name 6 sc.nd) (ss_one (s_if (b_A (b_w (w_and (b_cmp (v_ne hr.units) (nv 6) (nv 2) (nomark _)) (w_and (b_cmp (v_ne hr.units) (nv 6) (nv 3) (nomark _)) (w_and1 (b_cmp (v_ne hr.units) (p_ix (nv 5) (nv 6)) (p_int) (nomark _))))))) (ss_one (s_ret (o_V (e_D (p_non))))) (ss_nil))))
      (ss_one (s_ret (o_V (e_A (p_ix (nv 5) (nv 2)))))))))
abbrev s_reached_from : Stmt := top 3
abbrev nm_reached_from : List Str := ["arcs", "flows", "steps", "start", "reached", "node", "queue", "at", "index", "end", "sign"]
theorem sc_reached_from : FnScope nm_reached_from ["arcs", "flows", "steps", "start"] (defScope s_reached_from) := sc_mk rfl rfl rfl (by decide +kernel) rfl (by decide +kernel) (by decide +kernel)
theorem ok_reached_from {P : Program} {w : World} {K : Frg} {mg : Str → Option Value} (T : Tx K mg) (h_room_left : OkP P w K mg 1 "room_left" ["arcs", "flows", "index", "sign"] v_room_left) : OkP P w K mg 2 "reached_from" ["arcs", "flows", "steps", "start"] v_reached_from := by
  have sc := sc_reached_from
  refine mkP (N := nm_reached_from) (g := cSeq (cSet 4 (loD (cComp (iP kRange1 (aCons (cCB gLenA (aCons (cV 2) (aNil))) (aNil))) (hN 5) (cYes) (oD (cK .non)) [5])))
      (cSeq (cSub (pV 4) (cV 3) (eoD (liD (cTup (aCons (cV 3) (aCons (cNeg (cK (.int 1))) (aCons (cK (.int 0)) (aNil))))))))
      (cSeq (cSet 6 (loD (cLst (oCons (oD (cV 3)) (oNil)))))
      (cSeq (cSet 7 (eoD (liD (cK (.int 0)))))
      (cSeq (loopW (lbA (cB (cBin gLt (cV 7) (cCB gLenA (aCons (cV 6) (aNil)))))) (cSeq (cSet 5 (eoD (liA (cBin gIx (cV 6) (cV 7)))))
      (cSeq (cAug 7 gAddI (liD (cK (.int 1))))
      (cFor (iSX (liD (cBin gIx (cV 2) (cV 5)))) (gT 3 (gCons (gN 8) (gCons (gN 9) (gCons (gN 10) (gNil))))) (cIfS (lbA (cAnd (cB (cBin gIs (cBin gIx (cV 4) (cV 9)) (cK .non))) (cB (cBin gGt (dO (cCall v_room_left 4 (aCons (cV 0) (aCons (cV 1) (aCons (cV 8) (aCons (cV 10) (aNil))))))) (cK (.int 0)))))) (cSeq (cSub (pV 4) (cV 9) (eoD (liD (cTup (aCons (cV 5) (aCons (cV 8) (aCons (cV 10) (aNil))))))))
      (cApp 6 (eoD (liD (cV 9))))) (cNx)) [8, 9, 10]))) [5, 8, 9, 10] 100000)
      (cRet (cMv 4))))))) T.d_reached_from T.g_reached_from sc (fun _ _ _ _ _ _ us hl => match us, hl with | [_, _, _, _], _ => rfl) fun base cdv A outer s H E hr => ?_
  exact ss_cons (s_setLcP 4 (fun _ _ _ h => loD_rd h) (own := [("node", 5)]) rfl sc.nd (sw_true rfl rfl rfl (by decide +kernel)) (ip_range1 (by rfl) T.b_range (a_cons (p_callB v_lenA (by rfl) T.b_len (by decide +kernel) (a_cons (nv 2) (a_nil))) (a_nil))) (blkOk_by (N := nm_reached_from) (sc := defScope s_reached_from) (by decide +kernel)) (fun _ _ _ _ _ => hp_name 5 sc.nd) (fun _ _ _ _ _ => pts_yes) (fun _ _ _ _ _ => (p_non).po))
      (ss_cons (s_sub (o_V (e_D (p_tup (a_cons (nv 3) (a_cons (p_neg (p_int)) (a_cons (p_int) (a_nil))))))) (lp_v 4) (nv 3))
      (ss_cons (s_set 6 (o_D (o_lst (os_cons ((nv 3).po) (os_nil)))) sc.nd)
      (ss_cons (s_set 7 (o_V (e_D (p_int))) sc.nd)
      (ss_cons (s_while 100000 [5, 8, 9, 10] PassesOwn.never (b_A (b_cmp v_lt (nv 7) (p_callB v_lenA (by rfl) T.b_len (by decide +kernel) (a_cons (nv 6) (a_nil))) (nomark _))) (ss_cons (s_set 5 (o_V (e_A (p_ix (nv 6) (nv 7)))) sc.nd)
      (ss_cons (s_aug 7 iv_addI (e_D (p_int)) sc.nd)
      (ss_one (s_for [8, 9, 10] PassesOwn.never rfl (ix_seq (e_D (p_ix (nv 2) (nv 5)))) (gv_tup rfl (gvs_cons (gv_name 8 sc.nd) (gvs_cons (gv_name 9 sc.nd) (gvs_cons (gv_name 10 sc.nd) (gvs_nil))))) (ss_one (s_if (b_A (b_w (w_and (b_cmp v_is (p_ix (nv 4) (nv 9)) (p_non) (nomark _)) (w_and1 (b_cmp v_gt ((o_call h_room_left hr (a_cons (nv 0) (a_cons (nv 1) (a_cons (nv 8) (a_cons (nv 10) (a_nil)))))).pd) (p_int) (nomark _)))))) (ss_cons (s_sub (o_V (e_D (p_tup (a_cons (nv 5) (a_cons (nv 8) (a_cons (nv 10) (a_nil))))))) (lp_v 4) (nv 9))
      (ss_one (s_app 6 (o_V (e_D (nv 9)))))) (ss_nil))))))))
      (ss_one (s_ret (o_mv 4)))))))
abbrev s_l_wholes : Stmt := top 11
abbrev nm_l_wholes : List Str := ["_law_actual", "_law_part"]
theorem sc_l_wholes : FnScope nm_l_wholes ["_law_actual"] (defScope s_l_wholes) := sc_mk rfl rfl rfl (by decide +kernel) rfl (by decide +kernel) (by decide +kernel)
theorem ok_l_wholes {P : Program} {w : World} {K : Frg} {mg : Str → Option Value} (T : Tx K mg) (h_l_whole : OkP P w K mg 1 "_law_whole" ["_law_actual"] v_l_whole) : OkP P w K mg 2 "_law_wholes" ["_law_actual"] v_l_wholes := by
  have sc := sc_l_wholes
  refine mkP (N := nm_l_wholes) (g := cSeq (cIfS (lbA (cNot (cTr (cCB gIsi (aCons (cV 0) (aCons (cK (.ty "list")) (aNil))))))) (cRet (eoD (liD (cK (.bl false))))) (cNx))
      (cSeq (cFor (iSX (liD (cV 0))) (gN 1) (cIfS (lbA (cNot (cTr (dO (cCall v_l_whole 1 (aCons (cV 1) (aNil))))))) (cRet (eoD (liD (cK (.bl false))))) (cNx)) [1])
      (cRet (eoD (liD (cK (.bl true))))))) T.d_l_wholes T.g_l_wholes sc (fun _ _ _ _ _ _ us hl => match us, hl with | [_], _ => rfl) fun base cdv A outer s H E hr => ?_
  exact ss_cons (s_if (b_A (b_not (b_tr (p_callB v_isi (by rfl) T.b_isinstance (by decide +kernel) (a_cons (nv 0) (a_cons (p_ty (by rfl) T.b_list (by decide +kernel) rfl) (a_nil))))))) (ss_one (s_ret (o_V (e_D (p_bl))))) (ss_nil))
      (ss_cons (s_for [1] PassesOwn.never rfl (ix_seq (e_D (nv 0))) (gv_name 1 sc.nd) (ss_one (s_if (b_A (b_not (b_tr ((o_call h_l_whole hr (a_cons (nv 1) (a_nil))).pd)))) (ss_one (s_ret (o_V (e_D (p_bl))))) (ss_nil))))
      (ss_one (s_ret (o_V (e_D (p_bl))))))
abbrev s_l_capacity : Stmt := top 12
abbrev nm_l_capacity : List Str := ["_law_source_here", "_law_far", "_law_kind"]
theorem sc_l_capacity : FnScope nm_l_capacity ["_law_source_here", "_law_far"] (defScope s_l_capacity) := sc_mk rfl rfl rfl (by decide +kernel) rfl (by decide +kernel) (by decide +kernel)
theorem ok_l_capacity {P : Program} {w : World} {K : Frg} {mg : Str → Option Value} (T : Tx K mg) (h_l_draw : OkM P w K mg 1 "_law_draw" ["_law_source_here", "_law_size"] [0] v_l_draw) : OkM P w K mg 2 "_law_capacity" ["_law_source_here", "_law_far"] [0] v_l_capacity := by
  have sc := sc_l_capacity
  refine mkM (N := nm_l_capacity) (g := cSeq (cSet 2 (eoD (evO (eCallM v_l_draw 2 [0] (erS 0 (erD (liD (cK (.int 4))) (erNil)))))))
      (cSeq (cIfS (lbA (cAnd (cTr (cV 1)) (cB (cBin gEq (cV 2) (cK (.int 0)))))) (cRet (eoD (eBin gSub (liD (cBin gPow (cK (.int 10)) (cK (.int 6)))) (evO (eCallM v_l_draw 2 [0] (erS 0 (erD (liD (cK (.int 2))) (erNil)))))))) (cNx))
      (cSeq (cIfS (lbA (cAnd (cTr (cV 1)) (cB (cBin gLt (cV 2) (cK (.int 3)))))) (cRet (eCallM v_l_draw 2 [0] (erS 0 (erD (liD (cBin gAdd (cBin gPow (cK (.int 10)) (cK (.int 6))) (cK (.int 1)))) (erNil))))) (cNx))
      (cRet (eCallM v_l_draw 2 [0] (erS 0 (erD (liD (cK (.int 7))) (erNil)))))))) (Pn := [0]) T.d_l_capacity T.g_l_capacity sc (by decide) (fun _ _ _ _ _ _ us hl => match us, hl with | [_, _], _ => rfl) fun base cdv A outer s H E hr => ?_
  exact ss_cons (s_set 2 (o_V (e_O (eo_callM h_l_draw hr (er_s 0 (er_d (e_D (p_int)) (er_nil)))))) sc.nd)
      (ss_cons (s_if (b_A (b_w (w_and (b_tr (nv 1)) (w_and1 (b_cmp (v_eq hr.units) (nv 2) (p_int) (nomark _)))))) (ss_one (s_ret (o_V (e_op v_sub (e_D (p_op v_pow (p_int) (p_int))) (e_O (eo_callM h_l_draw hr (er_s 0 (er_d (e_D (p_int)) (er_nil))))))))) (ss_nil))
      (ss_cons (s_if (b_A (b_w (w_and (b_tr (nv 1)) (w_and1 (b_cmp v_lt (nv 2) (p_int) (nomark _)))))) (ss_one (s_ret (eo_callM h_l_draw hr (er_s 0 (er_d (e_D (p_op v_add (p_op v_pow (p_int) (p_int)) (p_int))) (er_nil)))))) (ss_nil))
      (ss_one (s_ret (eo_callM h_l_draw hr (er_s 0 (er_d (e_D (p_int)) (er_nil))))))))
abbrev s_l_other : Stmt := top 13
abbrev nm_l_other : List Str := ["_law_source_here", "_law_node", "_law_size"]
theorem sc_l_other : FnScope nm_l_other ["_law_source_here", "_law_node", "_law_size"] (defScope s_l_other) := sc_mk rfl rfl rfl (by decide +kernel) rfl (by decide +kernel) (by decide +kernel)
theorem ok_l_other {P : Program} {w : World} {K : Frg} {mg : Str → Option Value} (T : Tx K mg) (h_l_draw : OkM P w K mg 1 "_law_draw" ["_law_source_here", "_law_size"] [0] v_l_draw) : OkM P w K mg 2 "_law_other" ["_law_source_here", "_law_node", "_law_size"] [0] v_l_other := by
  have sc := sc_l_other
  refine mkM (N := nm_l_other) (g := cRet (eoD (eBin gMod (evO (eCB gInt (eaCons (eBin gAdd (liD (cBin gAdd (cV 1) (cK (.int 1)))) (evO (eCallM v_l_draw 2 [0] (erS 0 (erD (liD (cBin gSub (cV 2) (cK (.int 1)))) (erNil)))))) (eaNil)))) (liD (cV 2))))) (Pn := [0]) T.d_l_other T.g_l_other sc (by decide) (fun _ _ _ _ _ _ us hl => match us, hl with | [_, _, _], _ => rfl) fun base cdv A outer s H E hr => ?_
  exact ss_one (s_ret (o_V (e_op v_mod (e_O (eo_callTy v_int (by rfl) T.b_int (by decide +kernel) (ea_cons (e_op v_add (e_D (p_op v_add (nv 1) (p_int))) (e_O (eo_callM h_l_draw hr (er_s 0 (er_d (e_D (p_op v_sub (nv 2) (p_int))) (er_nil)))))) (ea_nil)))) (e_D (nv 2)))))
abbrev s_greatest_flow : Stmt := top 6
abbrev nm_greatest_flow : List Str := ["size", "arcs", "start", "goal", "rows", "arc", "steps", "flows", "reached", "way", "amount", "index", "sign", "side", "node"]
theorem sc_greatest_flow : FnScope nm_greatest_flow ["size", "arcs", "start", "goal"] (defScope s_greatest_flow) := sc_mk rfl rfl rfl (by decide +kernel) rfl (by decide +kernel) (by decide +kernel)
theorem ok_greatest_flow {P : Program} {w : World} {K : Frg} {mg : Str → Option Value} (T : Tx K mg) (h_net_out : OkP P w K mg 1 "net_out" ["arcs", "flows", "node"] v_net_out) (h_reached_from : OkP P w K mg 2 "reached_from" ["arcs", "flows", "steps", "start"] v_reached_from) (h_room_left : OkP P w K mg 1 "room_left" ["arcs", "flows", "index", "sign"] v_room_left) (h_steps_from : OkP P w K mg 1 "steps_from" ["size", "arcs"] v_steps_from) (h_way_back : OkP P w K mg 1 "way_back" ["reached", "goal"] v_way_back) : OkP P w K mg 3 "greatest_flow" ["size", "arcs", "start", "goal"] v_greatest_flow := by
  have sc := sc_greatest_flow
  refine mkP (N := nm_greatest_flow) (g := cSeq (cSet 4 (eoD (liD (dO (cComp (iS (cV 1)) (hN 5) (cYes) (cCBO gTuple (aCons (cV 5) (aNil))) [5])))))
      (cSeq (cSet 6 (eoD (liD (dO (cCall v_steps_from 2 (aCons (cV 0) (aCons (cV 4) (aNil))))))))
      (cSeq (cSet 7 (loD (cComp (iS (cV 4)) (hN 5) (cYes) (oD (cK (.int 0))) [5])))
      (cSeq (cSet 8 (eoD (evO (loA (cCall v_reached_from 4 (aCons (cV 4) (aCons (cV 7) (aCons (cV 6) (aCons (cV 2) (aNil))))))))))
      (cSeq (loopW (lbA (cB (cBin gIsN (cBin gIx (cV 8) (cV 3)) (cK .non)))) (cSeq (cSet 9 (eoD (liD (dO (cCall v_way_back 2 (aCons (cV 8) (aCons (cV 3) (aNil))))))))
      (cSeq (cSet 10 (eoD (liA (cCB gMin (aCons (dO (cComp (iS (cV 9)) (hT 2 (hCons (hN 11) (hCons (hN 12) (hNil)))) (cYes) (cCall v_room_left 4 (aCons (cV 4) (aCons (cV 7) (aCons (cV 11) (aCons (cV 12) (aNil)))))) [11, 12])) (aNil))))))
      (cSeq (cFor (iSX (liD (cV 9))) (gT 2 (gCons (gN 11) (gCons (gN 12) (gNil)))) (cAugS gAddI (pV 7) (cV 11) (cBin gMul (cV 12) (cV 10))) [11, 12])
      (cSet 8 (eoD (evO (loA (cCall v_reached_from 4 (aCons (cV 4) (aCons (cV 7) (aCons (cV 6) (aCons (cV 2) (aNil))))))))))))) [9, 10, 11, 12] 100000000)
      (cSeq (cSet 13 (loD (cComp (iP kRange1 (aCons (cV 0) (aNil))) (hN 14) (cB (cBin gIsN (cBin gIx (cV 8) (cV 14)) (cK .non))) (oD (cV 14)) [14])))
      (cRet (eTupO (eoCons (loA (cCall v_net_out 3 (aCons (cV 4) (aCons (cV 7) (aCons (cV 2) (aNil)))))) (eoCons (cMv 7) (eoCons (cMv 13) (eoNil)))))))))))) T.d_greatest_flow T.g_greatest_flow sc (fun _ _ _ _ _ _ us hl => match us, hl with | [_, _, _, _], _ => rfl) fun base cdv A outer s H E hr => ?_
  exact ss_cons (s_set 4 (o_V (e_D ((o_lc (own := [("arc", 5)]) rfl sc.nd (ip_seq (nv 1)) (blkOk_by (N := nm_greatest_flow) (sc := defScope s_greatest_flow) (by decide +kernel)) (fun _ _ _ _ _ => hp_name 5 sc.nd) (fun _ _ _ _ _ => pts_yes) (fun _ _ _ _ _ => o_callTy v_tuple (by rfl) T.b_tuple (by decide +kernel) (a_cons (nv 5) (a_nil)))).pd))) sc.nd)
      (ss_cons (s_set 6 (o_V (e_D ((o_call h_steps_from (hr.mono (by decide)) (a_cons (nv 0) (a_cons (nv 4) (a_nil)))).pd))) sc.nd)
      (ss_cons (s_set 7 (o_D (o_lc (own := [("arc", 5)]) rfl sc.nd (ip_seq (nv 4)) (blkOk_by (N := nm_greatest_flow) (sc := defScope s_greatest_flow) (by decide +kernel)) (fun _ _ _ _ _ => hp_name 5 sc.nd) (fun _ _ _ _ _ => pts_yes) (fun _ _ _ _ _ => (p_int).po))) sc.nd)
      (ss_cons (s_set 8 (o_V (e_O (o_A (o_call h_reached_from hr (a_cons (nv 4) (a_cons (nv 7) (a_cons (nv 6) (a_cons (nv 2) (a_nil))))))))) sc.nd)
      (ss_cons (s_while 100000000 [9, 10, 11, 12] PassesOwn.never (b_A (b_cmp v_isN (p_ix (nv 8) (nv 3)) (p_non) (nomark _))) (ss_cons (s_set 9 (o_V (e_D ((o_call h_way_back (hr.mono (by decide)) (a_cons (nv 8) (a_cons (nv 3) (a_nil)))).pd))) sc.nd)
      (ss_cons (s_set 10 (o_V (e_A (p_callB (v_min rfl) (by rfl) T.b_min (by decide +kernel) (a_cons ((o_lc (own := [("index", 11), ("sign", 12)]) rfl sc.nd (ip_seq (nv 9)) (blkOk_by (N := nm_greatest_flow) (sc := defScope s_greatest_flow) (by decide +kernel)) (fun _ _ _ _ _ => hp_tup rfl (hps_cons (hp_name 11 sc.nd) (hps_cons (hp_name 12 sc.nd) (hps_nil)))) (fun _ _ _ _ _ => pts_yes) (fun _ _ _ _ _ => o_call h_room_left (hr.mono (by decide)) (a_cons (nv 4) (a_cons (nv 7) (a_cons (nv 11) (a_cons (nv 12) (a_nil))))))).pd) (a_nil))))) sc.nd)
      (ss_cons (s_for [11, 12] PassesOwn.never rfl (ix_seq (e_D (nv 9))) (gv_tup rfl (gvs_cons (gv_name 11 sc.nd) (gvs_cons (gv_name 12 sc.nd) (gvs_nil)))) (ss_one (s_augS iv_addI (lp_v 7) (nv 11) (p_op v_mul (nv 12) (nv 10)))))
      (ss_one (s_set 8 (o_V (e_O (o_A (o_call h_reached_from hr (a_cons (nv 4) (a_cons (nv 7) (a_cons (nv 6) (a_cons (nv 2) (a_nil))))))))) sc.nd))))))
      (ss_cons (s_setLcP 13 (fun _ _ _ h => loD_rd h) (own := [("node", 14)]) rfl sc.nd (sw_true rfl rfl rfl (by decide +kernel)) (ip_range1 (by rfl) T.b_range (a_cons (nv 0) (a_nil))) (blkOk_by (N := nm_greatest_flow) (sc := defScope s_greatest_flow) (by decide +kernel)) (fun _ _ _ _ _ => hp_name 14 sc.nd) (fun _ _ _ _ _ => pts_if (b_cmp v_isN (p_ix (nv 8) (nv 14)) (p_non) (nomark _))) (fun _ _ _ _ _ => (nv 14).po))
      (ss_one (s_ret (eo_tup (eo_cons (o_A (o_call h_net_out (hr.mono (by decide)) (a_cons (nv 4) (a_cons (nv 7) (a_cons (nv 2) (a_nil)))))) (eo_cons (o_mv 7) (eo_cons (o_mv 13) (eo_nil))))))))))))
abbrev s_l_exchange : Stmt := top 14
abbrev nm_l_exchange : List Str := ["_law_source_here", "_law_size", "_law_begin", "_law_goal", "_law_far", "_law_inner", "_law_node", "_law_turn", "_law_room", "_law_pairs", "_law_pair"]
theorem sc_l_exchange : FnScope nm_l_exchange ["_law_source_here", "_law_size", "_law_begin", "_law_goal", "_law_far"] (defScope s_l_exchange) := sc_mk rfl rfl rfl (by decide +kernel) rfl (by decide +kernel) (by decide +kernel)
theorem ok_l_exchange {P : Program} {w : World} {K : Frg} {mg : Str → Option Value} (T : Tx K mg) (h_l_capacity : OkM P w K mg 2 "_law_capacity" ["_law_source_here", "_law_far"] [0] v_l_capacity) (h_l_draw : OkM P w K mg 1 "_law_draw" ["_law_source_here", "_law_size"] [0] v_l_draw) : OkM P w K mg 3 "_law_exchange" ["_law_source_here", "_law_size", "_law_begin", "_law_goal", "_law_far"] [0] v_l_exchange := by
  have sc := sc_l_exchange
  refine mkM (N := nm_l_exchange) (g := cSeq (cSet 5 (eoD (evO (loD (cComp (iP kRange1 (aCons (cV 1) (aNil))) (hN 6) (cAnd (cB (cBin gNe (cV 6) (cV 2))) (cB (cBin gNe (cV 6) (cV 3)))) (oD (cV 6)) [6])))))
      (cSeq (cSet 7 (eoD (evO (eCallM v_l_draw 2 [0] (erS 0 (erD (liD (cCB gLenA (aCons (cV 5) (aNil)))) (erNil)))))))
      (cSeq (cSet 5 (eoD (liD (cBin gAdd (dO (cSl (cV 5) (partI (cV 7)) (noPart))) (dO (cSl (cV 5) (noPart) (partI (cV 7))))))))
      (cSeq (cSet 8 (eoD (evO (eCB gMax2 (eaCons (liD (cK (.int 1))) (eaCons (evO (eCallM v_l_capacity 2 [0] (erS 0 (erD (liD (cV 4)) (erNil))))) (eaNil)))))))
      (cSeq (cSet 9 (eoD (liD (dO (cLst (oCons (oD (cTup (aCons (cV 2) (aCons (cBin gIx (cV 5) (cK (.int 0))) (aNil))))) (oCons (oD (cTup (aCons (cBin gIx (cV 5) (cK (.int 0))) (aCons (cBin gIx (cV 5) (cK (.int 1))) (aNil))))) (oCons (oD (cTup (aCons (cBin gIx (cV 5) (cK (.int 1))) (aCons (cV 3) (aNil))))) (oCons (oD (cTup (aCons (cBin gIx (cV 5) (cK (.int 0))) (aCons (cBin gIx (cV 5) (cK (.int 2))) (aNil))))) (oNil))))))))))
      (cSeq (cSet 9 (eoD (liD (cBin gAdd (cV 9) (dO (cLst (oCons (oD (cTup (aCons (cBin gIx (cV 5) (cK (.int 2))) (aCons (cV 3) (aNil))))) (oCons (oD (cTup (aCons (cV 2) (aCons (cBin gIx (cV 5) (cK (.int 3))) (aNil))))) (oCons (oD (cTup (aCons (cBin gIx (cV 5) (cK (.int 3))) (aCons (cBin gIx (cV 5) (cK (.int 1))) (aNil))))) (oNil))))))))))
      (cRet (loD (cComp (iS (cV 9)) (hN 10) (cYes) (oD (cTup (aCons (cBin gIx (cV 10) (cK (.int 0))) (aCons (cBin gIx (cV 10) (cK (.int 1))) (aCons (cV 8) (aNil)))))) [10]))))))))) (Pn := [0]) T.d_l_exchange T.g_l_exchange sc (by decide) (fun _ _ _ _ _ _ us hl => match us, hl with | [_, _, _, _, _], _ => rfl) fun base cdv A outer s H E hr => ?_
  exact ss_cons (s_setLcP 5 (fun _ _ _ h => loD_rd (dat_rd h)) (own := [("_law_node", 6)]) rfl sc.nd (sw_true rfl rfl rfl (by decide +kernel)) (ip_range1 (by rfl) T.b_range (a_cons (nv 1) (a_nil))) (blkOk_by (N := nm_l_exchange) (sc := defScope s_l_exchange) (by decide +kernel)) (fun _ _ _ _ _ => hp_name 6 sc.nd) (fun _ _ _ _ _ => pts_if (b_w (w_and (b_cmp (v_ne hr.units) (nv 6) (nv 2) (nomark _)) (w_and1 (b_cmp (v_ne hr.units) (nv 6) (nv 3) (nomark _)))))) (fun _ _ _ _ _ => (nv 6).po))
      (ss_cons (s_set 7 (o_V (e_O (eo_callM h_l_draw (hr.mono (by decide)) (er_s 0 (er_d (e_D (p_callB v_lenA (by rfl) T.b_len (by decide +kernel) (a_cons (nv 5) (a_nil)))) (er_nil)))))) sc.nd)
      (ss_cons (s_set 5 (o_V (e_D (p_op v_add ((o_sl (nv 5) (pn_some (nv 7)) (pn_none)).pd) ((o_sl (nv 5) (pn_none) (pn_some (nv 7))).pd)))) sc.nd)
      (ss_cons (s_set 8 (o_V (e_O (eo_callB (v_max2 rfl) (by rfl) T.b_max (by decide +kernel) (ea_cons (e_D (p_int)) (ea_cons (e_O (eo_callM h_l_capacity hr (er_s 0 (er_d (e_D (nv 4)) (er_nil))))) (ea_nil)))))) sc.nd)
      (ss_cons (s_set 9 (o_V (e_D ((o_lst (os_cons ((p_tup (a_cons (nv 2) (a_cons (p_ix (nv 5) (p_int)) (a_nil)))).po) (os_cons ((p_tup (a_cons (p_ix (nv 5) (p_int)) (a_cons (p_ix (nv 5) (p_int)) (a_nil)))).po) (os_cons ((p_tup (a_cons (p_ix (nv 5) (p_int)) (a_cons (nv 3) (a_nil)))).po) (os_cons ((p_tup (a_cons (p_ix (nv 5) (p_int)) (a_cons (p_ix (nv 5) (p_int)) (a_nil)))).po) (os_nil)))))).pd))) sc.nd)
      (ss_cons (s_set 9 (o_V (e_D (p_op v_add (nv 9) ((o_lst (os_cons ((p_tup (a_cons (p_ix (nv 5) (p_int)) (a_cons (nv 3) (a_nil)))).po) (os_cons ((p_tup (a_cons (nv 2) (a_cons (p_ix (nv 5) (p_int)) (a_nil)))).po) (os_cons ((p_tup (a_cons (p_ix (nv 5) (p_int)) (a_cons (p_ix (nv 5) (p_int)) (a_nil)))).po) (os_nil))))).pd)))) sc.nd)
      (ss_one (s_ret (o_D (o_lc (own := [("_law_pair", 10)]) rfl sc.nd (ip_seq (nv 9)) (blkOk_by (N := nm_l_exchange) (sc := defScope s_l_exchange) (by decide +kernel)) (fun _ _ _ _ _ => hp_name 10 sc.nd) (fun _ _ _ _ _ => pts_yes) (fun _ _ _ _ _ => (p_tup (a_cons (p_ix (nv 10) (p_int)) (a_cons (p_ix (nv 10) (p_int)) (a_cons (nv 8) (a_nil))))).po))))))))))
abbrev s_l_ways : Stmt := top 15
abbrev nm_l_ways : List Str := ["_law_source_here", "_law_size", "_law_begin", "_law_goal", "_law_far", "_law_arcs", "_law_turn", "_law_here", "_law_stop", "_law_there"]
theorem sc_l_ways : FnScope nm_l_ways ["_law_source_here", "_law_size", "_law_begin", "_law_goal", "_law_far"] (defScope s_l_ways) := sc_mk rfl rfl rfl (by decide +kernel) rfl (by decide +kernel) (by decide +kernel)
theorem ok_l_ways {P : Program} {w : World} {K : Frg} {mg : Str → Option Value} (T : Tx K mg) (h_l_capacity : OkM P w K mg 2 "_law_capacity" ["_law_source_here", "_law_far"] [0] v_l_capacity) (h_l_draw : OkM P w K mg 1 "_law_draw" ["_law_source_here", "_law_size"] [0] v_l_draw) (h_l_other : OkM P w K mg 2 "_law_other" ["_law_source_here", "_law_node", "_law_size"] [0] v_l_other) : OkM P w K mg 3 "_law_ways" ["_law_source_here", "_law_size", "_law_begin", "_law_goal", "_law_far"] [0] v_l_ways := by
  have sc := sc_l_ways
  refine mkM (N := nm_l_ways) (g := cSeq (cSet 5 (loD (cLst (oNil))))
      (cSeq (cFor (iX kRange1 (eaCons (evO (eCallM v_l_draw 2 [0] (erS 0 (erD (liD (cK (.int 4))) (erNil))))) (eaNil))) (gN 6) (cSeq (cSet 7 (eoD (liD (cV 2))))
      (cSeq (cFor (iX kRange1 (eaCons (evO (eCallM v_l_draw 2 [0] (erS 0 (erD (liD (cK (.int 4))) (erNil))))) (eaNil))) (gN 8) (cSeq (cSet 9 (eoD (evO (eCallM v_l_other 3 [0] (erS 0 (erD (liD (cV 7)) (erD (liD (cV 1)) (erNil))))))))
      (cSeq (cApp 5 (eoD (eTup (eaCons (liD (cV 7)) (eaCons (liD (cV 9)) (eaCons (evO (eCallM v_l_capacity 2 [0] (erS 0 (erD (liD (cV 4)) (erNil))))) (eaNil)))))))
      (cSet 7 (eoD (liD (cV 9)))))) [8, 9])
      (cIfS (lbA (cB (cBin gNe (cV 7) (cV 3)))) (cApp 5 (eoD (eTup (eaCons (liD (cV 7)) (eaCons (liD (cV 3)) (eaCons (evO (eCallM v_l_capacity 2 [0] (erS 0 (erD (liD (cV 4)) (erNil))))) (eaNil))))))) (cNx)))) [6, 7, 8, 9])
      (cRet (cMv 5)))) (Pn := [0]) T.d_l_ways T.g_l_ways sc (by decide) (fun _ _ _ _ _ _ us hl => match us, hl with | [_, _, _, _, _], _ => rfl) fun base cdv A outer s H E hr => ?_
  exact ss_cons (s_set 5 (o_D (o_lst (os_nil))) sc.nd)
      (ss_cons (s_for [6, 7, 8, 9] PassesOwn.never rfl (ix_range1 (by rfl) T.b_range (ea_cons (e_O (eo_callM h_l_draw (hr.mono (by decide)) (er_s 0 (er_d (e_D (p_int)) (er_nil))))) (ea_nil))) (gv_name 6 sc.nd) (ss_cons (s_set 7 (o_V (e_D (nv 2))) sc.nd)
      (ss_cons (s_for [8, 9] PassesOwn.never rfl (ix_range1 (by rfl) T.b_range (ea_cons (e_O (eo_callM h_l_draw (hr.mono (by decide)) (er_s 0 (er_d (e_D (p_int)) (er_nil))))) (ea_nil))) (gv_name 8 sc.nd) (ss_cons (s_set 9 (o_V (e_O (eo_callM h_l_other hr (er_s 0 (er_d (e_D (nv 7)) (er_d (e_D (nv 1)) (er_nil))))))) sc.nd)
      (ss_cons (s_app 5 (o_V (e_tup (ea_cons (e_D (nv 7)) (ea_cons (e_D (nv 9)) (ea_cons (e_O (eo_callM h_l_capacity hr (er_s 0 (er_d (e_D (nv 4)) (er_nil))))) (ea_nil)))))))
      (ss_one (s_set 7 (o_V (e_D (nv 9))) sc.nd)))))
      (ss_one (s_if (b_A (b_cmp (v_ne hr.units) (nv 7) (nv 3) (nomark _))) (ss_one (s_app 5 (o_V (e_tup (ea_cons (e_D (nv 7)) (ea_cons (e_D (nv 3)) (ea_cons (e_O (eo_callM h_l_capacity hr (er_s 0 (er_d (e_D (nv 4)) (er_nil))))) (ea_nil)))))))) (ss_nil))))))
      (ss_one (s_ret (o_mv 5))))
abbrev s_l_more : Stmt := top 16
abbrev nm_l_more : List Str := ["_law_source_here", "_law_arcs", "_law_size", "_law_far", "_law_first", "_law_second", "_law_kind", "_law_old"]
theorem sc_l_more : FnScope nm_l_more ["_law_source_here", "_law_arcs", "_law_size", "_law_far"] (defScope s_l_more) := sc_mk rfl rfl rfl (by decide +kernel) rfl (by decide +kernel) (by decide +kernel)
theorem ok_l_more {P : Program} {w : World} {K : Frg} {mg : Str → Option Value} (T : Tx K mg) (h_l_capacity : OkM P w K mg 2 "_law_capacity" ["_law_source_here", "_law_far"] [0] v_l_capacity) (h_l_draw : OkM P w K mg 1 "_law_draw" ["_law_source_here", "_law_size"] [0] v_l_draw) (h_l_other : OkM P w K mg 2 "_law_other" ["_law_source_here", "_law_node", "_law_size"] [0] v_l_other) : OkM P w K mg 3 "_law_more" ["_law_source_here", "_law_arcs", "_law_size", "_law_far"] [0, 1] v_l_more := by
  have sc := sc_l_more
  refine mkM (N := nm_l_more) (g := cSeq (cSet 4 (eoD (evO (eCallM v_l_draw 2 [0] (erS 0 (erD (liD (cV 2)) (erNil)))))))
      (cSeq (cSet 5 (eoD (evO (eCallM v_l_other 3 [0] (erS 0 (erD (liD (cV 4)) (erD (liD (cV 2)) (erNil))))))))
      (cSeq (cSet 6 (eoD (evO (eCallM v_l_draw 2 [0] (erS 0 (erD (liD (cK (.int 8))) (erNil)))))))
      (cSeq (cIfS (lbA (cB (cBin gEq (cV 6) (cK (.int 3))))) (cSet 5 (eoD (liD (cV 4)))) (cNx))
      (cSeq (cIfS (lbA (cAnd (cB (cBin gLt (cV 6) (cK (.int 3)))) (cB (cBin gGt (cCB gLenA (aCons (cV 1) (aNil))) (cK (.int 0)))))) (cSeq (cSet 7 (eoD (cItem 1 (evO (eCallM v_l_draw 2 [0] (erS 0 (erD (liA (cCB gLenA (aCons (cV 1) (aNil)))) (erNil))))))))
      (cSeq (cSet 4 (eoD (liD (cBin gIx (cV 7) (cK (.int 0))))))
      (cSeq (cSet 5 (eoD (liD (cBin gIx (cV 7) (cK (.int 1))))))
      (cIfS (lbA (cB (cBin gEq (cV 6) (cK (.int 0))))) (cSeq (cSet 4 (eoD (liD (cBin gIx (cV 7) (cK (.int 1))))))
      (cSet 5 (eoD (liD (cBin gIx (cV 7) (cK (.int 0))))))) (cNx))))) (cNx))
      (cRet (eoD (eTup (eaCons (liD (cV 4)) (eaCons (liD (cV 5)) (eaCons (evO (eCallM v_l_capacity 2 [0] (erS 0 (erD (liD (cV 3)) (erNil))))) (eaNil)))))))))))) (Pn := [0, 1]) T.d_l_more T.g_l_more sc (by decide) (fun _ _ _ _ _ _ us hl => match us, hl with | [_, _, _, _], _ => rfl) fun base cdv A outer s H E hr => ?_
  exact ss_cons (s_set 4 (o_V (e_O (eo_callM h_l_draw (hr.mono (by decide)) (er_s 0 (er_d (e_D (nv 2)) (er_nil)))))) sc.nd)
      (ss_cons (s_set 5 (o_V (e_O (eo_callM h_l_other hr (er_s 0 (er_d (e_D (nv 4)) (er_d (e_D (nv 2)) (er_nil))))))) sc.nd)
      (ss_cons (s_set 6 (o_V (e_O (eo_callM h_l_draw (hr.mono (by decide)) (er_s 0 (er_d (e_D (p_int)) (er_nil)))))) sc.nd)
      (ss_cons (s_if (b_A (b_cmp (v_eq hr.units) (nv 6) (p_int) (nomark _))) (ss_one (s_set 5 (o_V (e_D (nv 4))) sc.nd)) (ss_nil))
      (ss_cons (s_if (b_A (b_w (w_and (b_cmp v_lt (nv 6) (p_int) (nomark _)) (w_and1 (b_cmp v_gt (p_callB v_lenA (by rfl) T.b_len (by decide +kernel) (a_cons (nv 1) (a_nil))) (p_int) (nomark _)))))) (ss_cons (s_set 7 (o_V (e_item 1 (e_O (eo_callM h_l_draw (hr.mono (by decide)) (er_s 0 (er_d (e_A (p_callB v_lenA (by rfl) T.b_len (by decide +kernel) (a_cons (nv 1) (a_nil)))) (er_nil))))))) sc.nd)
      (ss_cons (s_set 4 (o_V (e_D (p_ix (nv 7) (p_int)))) sc.nd)
      (ss_cons (s_set 5 (o_V (e_D (p_ix (nv 7) (p_int)))) sc.nd)
      (ss_one (s_if (b_A (b_cmp (v_eq hr.units) (nv 6) (p_int) (nomark _))) (ss_cons (s_set 4 (o_V (e_D (p_ix (nv 7) (p_int)))) sc.nd)
      (ss_one (s_set 5 (o_V (e_D (p_ix (nv 7) (p_int)))) sc.nd))) (ss_nil)))))) (ss_nil))
      (ss_one (s_ret (o_V (e_tup (ea_cons (e_D (nv 4)) (ea_cons (e_D (nv 5)) (ea_cons (e_O (eo_callM h_l_capacity hr (er_s 0 (er_d (e_D (nv 3)) (er_nil))))) (ea_nil))))))))))))
abbrev s_l_shows : Stmt := top 21
abbrev nm_l_shows : List Str := ["_law_size", "_law_arcs", "_law_begin", "_law_goal", "_law_actual", "_law_side", "_law_across", "_law_arc", "_law_amount"]
theorem sc_l_shows : FnScope nm_l_shows ["_law_size", "_law_arcs", "_law_begin", "_law_goal", "_law_actual"] (defScope s_l_shows) := sc_mk rfl rfl rfl (by decide +kernel) rfl (by decide +kernel) (by decide +kernel)
theorem ok_l_shows {P : Program} {w : World} {K : Frg} {mg : Str → Option Value} (T : Tx K mg) (h_l_ascends : OkP P w K mg 1 "_law_ascends" ["_law_nodes", "_law_size"] v_l_ascends) (h_l_flow : OkP P w K mg 1 "_law_flow" ["_law_size", "_law_arcs", "_law_begin", "_law_goal", "_law_flows"] v_l_flow) (h_l_whole : OkP P w K mg 1 "_law_whole" ["_law_actual"] v_l_whole) (h_l_wholes : OkP P w K mg 2 "_law_wholes" ["_law_actual"] v_l_wholes) : OkP P w K mg 3 "_law_shows" ["_law_size", "_law_arcs", "_law_begin", "_law_goal", "_law_actual"] v_l_shows := by
  have sc := sc_l_shows
  refine mkP (N := nm_l_shows) (g := cSeq (cIfS (lbA (cOr (cNot (cTr (cCB gIsi (aCons (cV 4) (aCons (cK (.ty "tuple")) (aNil)))))) (cOr (cB (cBin gNe (cCB gLenA (aCons (cV 4) (aNil))) (cK (.int 3)))) (cNot (cTr (dO (cCall v_l_whole 1 (aCons (cBin gIx (cV 4) (cK (.int 0))) (aNil))))))))) (cRet (eoD (liD (cK (.bl false))))) (cNx))
      (cSeq (cIfS (lbA (cOr (cNot (cTr (dO (cCall v_l_wholes 1 (aCons (cBin gIx (cV 4) (cK (.int 1))) (aNil)))))) (cNot (cTr (dO (cCall v_l_wholes 1 (aCons (cBin gIx (cV 4) (cK (.int 2))) (aNil)))))))) (cRet (eoD (liD (cK (.bl false))))) (cNx))
      (cSeq (cSet 5 (eoD (liD (cBin gIx (cV 4) (cK (.int 2))))))
      (cSeq (cIfS (lbA (cOr (cNot (cTr (dO (cCall v_l_ascends 2 (aCons (cV 5) (aCons (cV 0) (aNil))))))) (cOr (cB (cBin gNotIn (cV 2) (cV 5))) (cB (cBin gIn (cV 3) (cV 5)))))) (cRet (eoD (liD (cK (.bl false))))) (cNx))
      (cSeq (cSet 6 (eoD (liD (cK (.int 0)))))
      (cSeq (cFor (iSX (liD (cV 1))) (gN 7) (cIfS (lbA (cAnd (cB (cBin gIn (cBin gIx (cV 7) (cK (.int 0))) (cV 5))) (cB (cBin gNotIn (cBin gIx (cV 7) (cK (.int 1))) (cV 5))))) (cSet 6 (eoD (liD (cBin gAdd (cV 6) (cBin gIx (cV 7) (cK (.int 2))))))) (cNx)) [7])
      (cSeq (cSet 8 (eoD (liD (dO (cCall v_l_flow 5 (aCons (cV 0) (aCons (cV 1) (aCons (cV 2) (aCons (cV 3) (aCons (cBin gIx (cV 4) (cK (.int 1))) (aNil)))))))))))
      (cRet (eoD (liD (cAndV (cBin gIsN (cV 8) (cK .non)) (cAndV (cBin gEq (cV 8) (cBin gIx (cV 4) (cK (.int 0)))) (cBin gEq (cV 6) (cBin gIx (cV 4) (cK (.int 0)))))))))))))))) T.d_l_shows T.g_l_shows sc (fun _ _ _ _ _ _ us hl => match us, hl with | [_, _, _, _, _], _ => rfl) fun base cdv A outer s H E hr => ?_
  exact ss_cons (s_if (b_A (b_w (w_or (b_not (b_tr (p_callB v_isi (by rfl) T.b_isinstance (by decide +kernel) (a_cons (nv 4) (a_cons (p_ty (by rfl) T.b_tuple (by decide +kernel) rfl) (a_nil)))))) (w_or (b_cmp (v_ne hr.units) (p_callB v_lenA (by rfl) T.b_len (by decide +kernel) (a_cons (nv 4) (a_nil))) (p_int) (nomark _)) (w_or1 (b_not (b_tr ((o_call h_l_whole (hr.mono (by decide)) (a_cons (p_ix (nv 4) (p_int)) (a_nil))).pd)))))))) (ss_one (s_ret (o_V (e_D (p_bl))))) (ss_nil))
      (ss_cons (s_if (b_A (b_w (w_or (b_not (b_tr ((o_call h_l_wholes hr (a_cons (p_ix (nv 4) (p_int)) (a_nil))).pd))) (w_or1 (b_not (b_tr ((o_call h_l_wholes hr (a_cons (p_ix (nv 4) (p_int)) (a_nil))).pd))))))) (ss_one (s_ret (o_V (e_D (p_bl))))) (ss_nil))
      (ss_cons (s_set 5 (o_V (e_D (p_ix (nv 4) (p_int)))) sc.nd)
      (ss_cons (s_if (b_A (b_w (w_or (b_not (b_tr ((o_call h_l_ascends (hr.mono (by decide)) (a_cons (nv 5) (a_cons (nv 0) (a_nil)))).pd))) (w_or (b_cmp (v_notin (room_in hr)) (nv 2) (nv 5) (by rfl)) (w_or1 (b_cmp (v_in (room_in hr)) (nv 3) (nv 5) (by rfl))))))) (ss_one (s_ret (o_V (e_D (p_bl))))) (ss_nil))
      (ss_cons (s_set 6 (o_V (e_D (p_int))) sc.nd)
      (ss_cons (s_for [7] PassesOwn.never rfl (ix_seq (e_D (nv 1))) (gv_name 7 sc.nd) (ss_one (s_if (b_A (b_w (w_and (b_cmp (v_in (room_in hr)) (p_ix (nv 7) (p_int)) (nv 5) (by rfl)) (w_and1 (b_cmp (v_notin (room_in hr)) (p_ix (nv 7) (p_int)) (nv 5) (by rfl)))))) (ss_one (s_set 6 (o_V (e_D (p_op v_add (nv 6) (p_ix (nv 7) (p_int))))) sc.nd)) (ss_nil))))
      (ss_cons (s_set 8 (o_V (e_D ((o_call h_l_flow (hr.mono (by decide)) (a_cons (nv 0) (a_cons (nv 1) (a_cons (nv 2) (a_cons (nv 3) (a_cons (p_ix (nv 4) (p_int)) (a_nil))))))).pd))) sc.nd)
      (ss_one (s_ret (o_V (e_D (p_and (p_cmp v_isN (nv 8) (p_non) (nomark _)) (p_and (p_cmp (v_eq hr.units) (nv 8) (p_ix (nv 4) (p_int)) (nomark _)) (p_one (p_cmp (v_eq hr.units) (nv 6) (p_ix (nv 4) (p_int)) (nomark _)))))))))))))))
abbrev s_l_net : Stmt := top 17
abbrev nm_l_net : List Str := ["_law_source_here", "_law_shape", "_law_size", "_law_begin", "_law_goal", "_law_far", "_law_many", "_law_arcs", "_law_turn"]
theorem sc_l_net : FnScope nm_l_net ["_law_source_here", "_law_shape", "_law_size", "_law_begin", "_law_goal", "_law_far"] (defScope s_l_net) := sc_mk rfl rfl rfl (by decide +kernel) rfl (by decide +kernel) (by decide +kernel)
theorem ok_l_net {P : Program} {w : World} {K : Frg} {mg : Str → Option Value} (T : Tx K mg) (h_l_draw : OkM P w K mg 1 "_law_draw" ["_law_source_here", "_law_size"] [0] v_l_draw) (h_l_exchange : OkM P w K mg 3 "_law_exchange" ["_law_source_here", "_law_size", "_law_begin", "_law_goal", "_law_far"] [0] v_l_exchange) (h_l_more : OkM P w K mg 3 "_law_more" ["_law_source_here", "_law_arcs", "_law_size", "_law_far"] [0, 1] v_l_more) (h_l_ways : OkM P w K mg 3 "_law_ways" ["_law_source_here", "_law_size", "_law_begin", "_law_goal", "_law_far"] [0] v_l_ways) : OkM P w K mg 4 "_law_net" ["_law_source_here", "_law_shape", "_law_size", "_law_begin", "_law_goal", "_law_far"] [0] v_l_net := by
  have sc := sc_l_net
  refine mkM (N := nm_l_net) (g := cSeq (cSet 6 (eoD (liD (cK (.int 5)))))
      (cSeq (cIfS (lbA (cB (cBin gEq (cV 1) (cK (.int 0))))) (cSet 6 (eoD (liD (cK (.int 61))))) (cNx))
      (cSeq (cIfS (lbA (cOr (cB (cBin gEq (cV 1) (cK (.int 1)))) (cB (cBin gEq (cV 1) (cK (.int 2)))))) (cSeq (cSet 6 (eoD (liD (cK (.int 3)))))
      (cSet 7 (eCallM v_l_exchange 5 [0] (erS 0 (erD (liD (cV 2)) (erD (liD (cV 3)) (erD (liD (cV 4)) (erD (liD (cV 5)) (erNil))))))))) (cSet 7 (eCallM v_l_ways 5 [0] (erS 0 (erD (liD (cV 2)) (erD (liD (cV 3)) (erD (liD (cV 4)) (erD (liD (cV 5)) (erNil)))))))))
      (cSeq (cFor (iX kRange1 (eaCons (evO (eCallM v_l_draw 2 [0] (erS 0 (erD (liD (cV 6)) (erNil))))) (eaNil))) (gN 8) (cApp 7 (eCallM v_l_more 4 [0, 1] (erS 0 (erS 7 (erD (liD (cV 2)) (erD (liD (cV 5)) (erNil))))))) [8])
      (cSeq (cSet 8 (eoD (evO (eCallM v_l_draw 2 [0] (erS 0 (erD (liA (cBin gAdd (cCB gLenA (aCons (cV 7) (aNil))) (cK (.int 1)))) (erNil)))))))
      (cRet (loA (cBinO gAdd (dO (cSl (cV 7) (partI (cV 8)) (noPart))) (dO (cSl (cV 7) (noPart) (partI (cV 8)))))))))))) (Pn := [0]) T.d_l_net T.g_l_net sc (by decide) (fun _ _ _ _ _ _ us hl => match us, hl with | [_, _, _, _, _, _], _ => rfl) fun base cdv A outer s H E hr => ?_
  exact ss_cons (s_set 6 (o_V (e_D (p_int))) sc.nd)
      (ss_cons (s_if (b_A (b_cmp (v_eq hr.units) (nv 1) (p_int) (nomark _))) (ss_one (s_set 6 (o_V (e_D (p_int))) sc.nd)) (ss_nil))
      (ss_cons (s_if (b_A (b_w (w_or (b_cmp (v_eq hr.units) (nv 1) (p_int) (nomark _)) (w_or1 (b_cmp (v_eq hr.units) (nv 1) (p_int) (nomark _)))))) (ss_cons (s_set 6 (o_V (e_D (p_int))) sc.nd)
      (ss_one (s_set 7 (eo_callM h_l_exchange hr (er_s 0 (er_d (e_D (nv 2)) (er_d (e_D (nv 3)) (er_d (e_D (nv 4)) (er_d (e_D (nv 5)) (er_nil))))))) sc.nd))) (ss_one (s_set 7 (eo_callM h_l_ways hr (er_s 0 (er_d (e_D (nv 2)) (er_d (e_D (nv 3)) (er_d (e_D (nv 4)) (er_d (e_D (nv 5)) (er_nil))))))) sc.nd)))
      (ss_cons (s_for [8] PassesOwn.never rfl (ix_range1 (by rfl) T.b_range (ea_cons (e_O (eo_callM h_l_draw (hr.mono (by decide)) (er_s 0 (er_d (e_D (nv 6)) (er_nil))))) (ea_nil))) (gv_name 8 sc.nd) (ss_one (s_app 7 (eo_callM h_l_more hr (er_s 0 (er_s 7 (er_d (e_D (nv 2)) (er_d (e_D (nv 5)) (er_nil)))))))))
      (ss_cons (s_set 8 (o_V (e_O (eo_callM h_l_draw (hr.mono (by decide)) (er_s 0 (er_d (e_A (p_op v_add (p_callB v_lenA (by rfl) T.b_len (by decide +kernel) (a_cons (nv 7) (a_nil))) (p_int))) (er_nil)))))) sc.nd)
      (ss_one (s_ret (o_A (o_op v_add ((o_sl (nv 7) (pn_some (nv 8)) (pn_none)).pd) ((o_sl (nv 7) (pn_none) (pn_some (nv 8))).pd)))))))))
abbrev s_law : Stmt := top 22
abbrev nm_law : List Str := ["_law_script", "_law_source_here", "_law_shape", "_law_far", "_law_form", "_law_size", "_law_begin", "_law_goal", "_law_arcs", "_law_handed_here", "_law_actual", "_law_kept", "_law_count"]
theorem sc_law : FnScope nm_law ["_law_script"] (defScope s_law) := sc_mk rfl rfl rfl (by decide +kernel) rfl (by decide +kernel) (by decide +kernel)
theorem ok_law {P : Program} {w : World} {K : Frg} {mg : Str → Option Value} (T : Tx K mg) (h_l_draw : OkM P w K mg 1 "_law_draw" ["_law_source_here", "_law_size"] [0] v_l_draw) (h_l_handed : OkP P w K mg 1 "_law_handed" ["_law_form", "_law_rows"] v_l_handed) (h_l_net : OkM P w K mg 4 "_law_net" ["_law_source_here", "_law_shape", "_law_size", "_law_begin", "_law_goal", "_law_far"] [0] v_l_net) (h_l_other : OkM P w K mg 2 "_law_other" ["_law_source_here", "_law_node", "_law_size"] [0] v_l_other) (h_l_shows : OkP P w K mg 3 "_law_shows" ["_law_size", "_law_arcs", "_law_begin", "_law_goal", "_law_actual"] v_l_shows) (h_l_source : OkP P w K mg 1 "_law_source" ["_law_script", "_law_place"] v_l_source) (h_greatest_flow : OkP P w K mg 3 "greatest_flow" ["size", "arcs", "start", "goal"] v_greatest_flow) : OkG P w K mg 5 "law" ["_law_script"] v_law := by
  have sc := sc_law
  refine mkG (N := nm_law) (g := cSeq (cSet 1 (loD (cCall v_l_source 2 (aCons (cV 0) (aCons (cK (.int 0)) (aNil))))))
      (cSeq (cSet 2 (eoD (evO (eCallM v_l_draw 2 [0] (erS 1 (erD (liD (cK (.int 8))) (erNil)))))))
      (cSeq (cSet 3 (eoD (eBin gEq (evO (eCallM v_l_draw 2 [0] (erS 1 (erD (liD (cK (.int 4))) (erNil))))) (liD (cK (.int 0))))))
      (cSeq (cSet 4 (eoD (evO (eCallM v_l_draw 2 [0] (erS 1 (erD (liD (cK (.int 2))) (erNil)))))))
      (cSeq (cSet 5 (eoD (eBin gAdd (liD (cK (.int 2))) (evO (eCallM v_l_draw 2 [0] (erS 1 (erD (liD (cK (.int 5))) (erNil))))))))
      (cSeq (cIfS (lbA (cB (cBin gEq (cV 2) (cK (.int 0))))) (cSet 5 (eoD (eBin gAdd (liD (cK (.int 7))) (evO (eCallM v_l_draw 2 [0] (erS 1 (erD (liD (cK (.int 14))) (erNil)))))))) (cNx))
      (cSeq (cIfS (lbA (cOr (cB (cBin gEq (cV 2) (cK (.int 1)))) (cB (cBin gEq (cV 2) (cK (.int 2)))))) (cSet 5 (eoD (eBin gAdd (liD (cK (.int 6))) (evO (eCallM v_l_draw 2 [0] (erS 1 (erD (liD (cK (.int 3))) (erNil)))))))) (cNx))
      (cSeq (cSet 6 (eoD (evO (eCallM v_l_draw 2 [0] (erS 1 (erD (liD (cV 5)) (erNil)))))))
      (cSeq (cSet 7 (eoD (evO (eCallM v_l_other 3 [0] (erS 1 (erD (liD (cV 6)) (erD (liD (cV 5)) (erNil))))))))
      (cSeq (cSet 8 (eoD (evO (eCallM v_l_net 6 [0] (erO (loD (cCall v_l_source 2 (aCons (cV 0) (aCons (cK (.int 1)) (aNil))))) (erD (liD (cV 2)) (erD (liD (cV 5)) (erD (liD (cV 6)) (erD (liD (cV 7)) (erD (liD (cV 3)) (erNil)))))))))))
      (cSeq (cSet 9 (eoD (liD (dO (cCall v_l_handed 2 (aCons (cV 4) (aCons (cV 8) (aNil))))))))
      (cSeq (cSet 10 (loD (cCall v_greatest_flow 4 (aCons (cV 5) (aCons (cV 9) (aCons (cV 6) (aCons (cV 7) (aNil))))))))
      (cSeq (cIfS (lbA (cOr (cNot (cTr (dO (cCall v_l_shows 5 (aCons (cV 5) (aCons (cV 8) (aCons (cV 6) (aCons (cV 7) (aCons (cV 10) (aNil)))))))))) (cB (cBin gNe (cCB gList (aCons (cV 9) (aNil))) (cV 8))))) (cRet (eoD (liD (cK (.bl false))))) (cNx))
      (cSeq (cSet 11 (eoD (liA (cCB gRepr (aCons (cV 10) (aNil))))))
      (cSeq (cSet 12 (eoD (liA (cCB gLenA (aCons (cBin gIx (cV 10) (cK (.int 2))) (aNil))))))
      (cSeq (cAppP (pIxT (pV 10) 1) (cV 5))
      (cSeq (cIfS (lbA (cB (cBin gNe (cCB gLenA (aCons (cBin gIx (cV 10) (cK (.int 2))) (aNil))) (cV 12)))) (cRet (eoD (liD (cK (.bl false))))) (cNx))
      (cSeq (cAppP (pIxT (pV 10) 2) (cBin gSub (cK (.int 0)) (cV 5)))
      (cRet (eoD (liD (cBin gEq (cCB gRepr (aCons (dO (cCall v_greatest_flow 4 (aCons (cV 5) (aCons (dO (cCall v_l_handed 2 (aCons (cV 4) (aCons (cV 8) (aNil))))) (aCons (cV 6) (aCons (cV 7) (aNil))))))) (aNil))) (cV 11))))))))))))))))))))))) T.d_law T.g_law sc (fun _ _ _ _ _ _ us hl => match us, hl with | [_], _ => rfl) fun base cdv A outer s H E hr hG => ?_
  exact ss_cons (s_set 1 (o_D (o_call h_l_source (hr.mono (by decide)) (a_cons (nv 0) (a_cons (p_int) (a_nil))))) sc.nd)
      (ss_cons (s_set 2 (o_V (e_O (eo_callM h_l_draw (hr.mono (by decide)) (er_s 1 (er_d (e_D (p_int)) (er_nil)))))) sc.nd)
      (ss_cons (s_set 3 (o_V (e_cmp (v_eq hr.units) (e_O (eo_callM h_l_draw (hr.mono (by decide)) (er_s 1 (er_d (e_D (p_int)) (er_nil))))) (e_D (p_int)) (nomark _))) sc.nd)
      (ss_cons (s_set 4 (o_V (e_O (eo_callM h_l_draw (hr.mono (by decide)) (er_s 1 (er_d (e_D (p_int)) (er_nil)))))) sc.nd)
      (ss_cons (s_set 5 (o_V (e_op v_add (e_D (p_int)) (e_O (eo_callM h_l_draw (hr.mono (by decide)) (er_s 1 (er_d (e_D (p_int)) (er_nil))))))) sc.nd)
      (ss_cons (s_if (b_A (b_cmp (v_eq hr.units) (nv 2) (p_int) (nomark _))) (ss_one (s_set 5 (o_V (e_op v_add (e_D (p_int)) (e_O (eo_callM h_l_draw (hr.mono (by decide)) (er_s 1 (er_d (e_D (p_int)) (er_nil))))))) sc.nd)) (ss_nil))
      (ss_cons (s_if (b_A (b_w (w_or (b_cmp (v_eq hr.units) (nv 2) (p_int) (nomark _)) (w_or1 (b_cmp (v_eq hr.units) (nv 2) (p_int) (nomark _)))))) (ss_one (s_set 5 (o_V (e_op v_add (e_D (p_int)) (e_O (eo_callM h_l_draw (hr.mono (by decide)) (er_s 1 (er_d (e_D (p_int)) (er_nil))))))) sc.nd)) (ss_nil))
      (ss_cons (s_set 6 (o_V (e_O (eo_callM h_l_draw (hr.mono (by decide)) (er_s 1 (er_d (e_D (nv 5)) (er_nil)))))) sc.nd)
      (ss_cons (s_set 7 (o_V (e_O (eo_callM h_l_other (hr.mono (by decide)) (er_s 1 (er_d (e_D (nv 6)) (er_d (e_D (nv 5)) (er_nil))))))) sc.nd)
      (ss_cons (s_set 8 (o_V (e_O (eo_callM h_l_net hr (er_o (o_D (o_call h_l_source (hr.mono (by decide)) (a_cons (nv 0) (a_cons (p_int) (a_nil))))) (er_d (e_D (nv 2)) (er_d (e_D (nv 5)) (er_d (e_D (nv 6)) (er_d (e_D (nv 7)) (er_d (e_D (nv 3)) (er_nil)))))))))) sc.nd)
      (ss_cons (s_set 9 (o_V (e_D ((o_call h_l_handed (hr.mono (by decide)) (a_cons (nv 4) (a_cons (nv 8) (a_nil)))).pd))) sc.nd)
      (ss_cons (s_set 10 (o_D (o_call h_greatest_flow (hr.mono (by decide)) (a_cons (nv 5) (a_cons (nv 9) (a_cons (nv 6) (a_cons (nv 7) (a_nil))))))) sc.nd)
      (ss_cons (s_if (b_A (b_w (w_or (b_not (b_tr ((o_call h_l_shows (hr.mono (by decide)) (a_cons (nv 5) (a_cons (nv 8) (a_cons (nv 6) (a_cons (nv 7) (a_cons (nv 10) (a_nil))))))).pd))) (w_or1 (b_cmp (v_ne hr.units) (p_callTy (v_list rfl) (by rfl) T.b_list (by decide +kernel) (a_cons (nv 9) (a_nil))) (nv 8) (nomark _)))))) (ss_one (s_ret (o_V (e_D (p_bl))))) (ss_nil))
      (ss_cons (s_set 11 (o_V (e_A (p_callB (v_repr hG hr.units) (by rfl) T.b_repr (by decide +kernel) (a_cons (nv 10) (a_nil))))) sc.nd)
      (ss_cons (s_set 12 (o_V (e_A (p_callB v_lenA (by rfl) T.b_len (by decide +kernel) (a_cons (p_ix (nv 10) (p_int)) (a_nil))))) sc.nd)
      (ss_cons (s_appP (lp_ixT (k := 1) (lp_v 10)) (nv 5))
      (ss_cons (s_if (b_A (b_cmp (v_ne hr.units) (p_callB v_lenA (by rfl) T.b_len (by decide +kernel) (a_cons (p_ix (nv 10) (p_int)) (a_nil))) (nv 12) (nomark _))) (ss_one (s_ret (o_V (e_D (p_bl))))) (ss_nil))
      (ss_cons (s_appP (lp_ixT (k := 2) (lp_v 10)) (p_op v_sub (p_int) (nv 5)))
      (ss_one (s_ret (o_V (e_D (p_cmp (v_eq hr.units) (p_callB (v_repr hG hr.units) (by rfl) T.b_repr (by decide +kernel) (a_cons ((o_call h_greatest_flow (hr.mono (by decide)) (a_cons (nv 5) (a_cons ((o_call h_l_handed (hr.mono (by decide)) (a_cons (nv 4) (a_cons (nv 8) (a_nil)))).pd) (a_cons (nv 6) (a_cons (nv 7) (a_nil)))))).pd) (a_nil))) (nv 11) (nomark _)))))))))))))))))))))))
end Lw
namespace Lw
open PySem PySem.Spec PyProof.Rows L2 FL VL
theorem obs_eq (s : PySem.W.SharedT) : obs s = hk.obs s.abs := obsW_eq (HandSHeadRun.getT_eq s)
theorem facts {K : Frg} {h : Heap} {mg : Str → Option Value} (X : K.In h) (G : h.Ns mainGlobals mg) (cw : SaysW faL fnL snL exB K) : Tx K mg := by
  have c := cw.d
  have z0 := cw.x
  refine { g_steps_from := He.glo_ok X G (c.fact 0 (f := .glo "steps_from") rfl), d_steps_from := c.def_ 0 (d := dd_steps_from) rfl, g_room_left := He.glo_ok X G (c.fact 1 (f := .glo "room_left") rfl), d_room_left := c.def_ 1 (d := dd_room_left) rfl, g_way_back := He.glo_ok X G (c.fact 2 (f := .glo "way_back") rfl), d_way_back := c.def_ 2 (d := dd_way_back) rfl, g_net_out := He.glo_ok X G (c.fact 3 (f := .glo "net_out") rfl), d_net_out := c.def_ 3 (d := dd_net_out) rfl, g_l_source := He.glo_ok X G (c.fact 4 (f := .glo "_law_source") rfl), d_l_source := c.def_ 4 (d := dd_l_source) rfl, g_l_draw := He.glo_ok X G (c.fact 5 (f := .glo "_law_draw") rfl), d_l_draw := c.def_ 5 (d := dd_l_draw) rfl, g_l_whole := He.glo_ok X G (c.fact 6 (f := .glo "_law_whole") rfl), d_l_whole := c.def_ 6 (d := dd_l_whole) rfl, g_l_handed := He.glo_ok X G (c.fact 7 (f := .glo "_law_handed") rfl), d_l_handed := c.def_ 7 (d := dd_l_handed) rfl, g_l_ascends := He.glo_ok X G (c.fact 8 (f := .glo "_law_ascends") rfl), d_l_ascends := c.def_ 8 (d := dd_l_ascends) rfl, g_l_flow := He.glo_ok X G (c.fact 9 (f := .glo "_law_flow") rfl), d_l_flow := c.def_ 9 (d := dd_l_flow) rfl, g_reached_from := He.glo_ok X G (c.fact 10 (f := .glo "reached_from") rfl), d_reached_from := c.def_ 10 (d := dd_reached_from) rfl, g_l_wholes := He.glo_ok X G (c.fact 11 (f := .glo "_law_wholes") rfl), d_l_wholes := c.def_ 11 (d := dd_l_wholes) rfl, g_l_capacity := He.glo_ok X G (c.fact 12 (f := .glo "_law_capacity") rfl), d_l_capacity := c.def_ 12 (d := dd_l_capacity) rfl, g_l_other := He.glo_ok X G (c.fact 13 (f := .glo "_law_other") rfl), d_l_other := c.def_ 13 (d := dd_l_other) rfl, g_greatest_flow := He.glo_ok X G (c.fact 14 (f := .glo "greatest_flow") rfl), d_greatest_flow := c.def_ 14 (d := dd_greatest_flow) rfl, g_l_exchange := He.glo_ok X G (c.fact 15 (f := .glo "_law_exchange") rfl), d_l_exchange := c.def_ 15 (d := dd_l_exchange) rfl, g_l_ways := He.glo_ok X G (c.fact 16 (f := .glo "_law_ways") rfl), d_l_ways := c.def_ 16 (d := dd_l_ways) rfl, g_l_more := He.glo_ok X G (c.fact 17 (f := .glo "_law_more") rfl), d_l_more := c.def_ 17 (d := dd_l_more) rfl, g_l_shows := He.glo_ok X G (c.fact 18 (f := .glo "_law_shows") rfl), d_l_shows := c.def_ 18 (d := dd_l_shows) rfl, g_l_net := He.glo_ok X G (c.fact 19 (f := .glo "_law_net") rfl), d_l_net := c.def_ 19 (d := dd_l_net) rfl, g_law := He.glo_ok X G (c.fact 20 (f := .glo "law") rfl), d_law := c.def_ 20 (d := dd_law) rfl, b_abs := He.free_ok X G (c.fact 21 (f := .free "abs") rfl), b_bool := He.free_ok X G (c.fact 22 (f := .free "bool") rfl), b_int := He.free_ok X G (c.fact 23 (f := .free "int") rfl), b_isinstance := He.free_ok X G (c.fact 24 (f := .free "isinstance") rfl), b_len := He.free_ok X G (c.fact 25 (f := .free "len") rfl), b_list := He.free_ok X G (c.fact 26 (f := .free "list") rfl), b_max := He.free_ok X G (c.fact 27 (f := .free "max") rfl), b_min := He.free_ok X G (c.fact 28 (f := .free "min") rfl), b_range := He.free_ok X G (c.fact 29 (f := .free "range") rfl), b_repr := He.free_ok X G (c.fact 30 (f := .free "repr") rfl), b_tuple := He.free_ok X G (c.fact 31 (f := .free "tuple") rfl) }
theorem ok_all {P : Program} {w : World} {K : Frg} {mg : Str → Option Value} (T : Tx K mg) (hp : PF P) : OkG P w K mg 5 "law" ["_law_script"] v_law := by
  have h_steps_from := ok_steps_from (P := P) (w := w) T 
  have h_room_left := ok_room_left (P := P) (w := w) T 
  have h_way_back := ok_way_back (P := P) (w := w) T 
  have h_net_out := ok_net_out (P := P) (w := w) T 
  have h_l_source := ok_l_source (P := P) (w := w) T 
  have h_l_draw := ok_l_draw (P := P) (w := w) T 
  have h_l_whole := ok_l_whole (P := P) (w := w) T 
  have h_l_handed := ok_l_handed (P := P) (w := w) T 
  have h_l_ascends := ok_l_ascends (P := P) (w := w) T 
  have h_l_flow := ok_l_flow (P := P) (w := w) T 
  have h_reached_from := ok_reached_from (P := P) (w := w) T h_room_left
  have h_l_wholes := ok_l_wholes (P := P) (w := w) T h_l_whole
  have h_l_capacity := ok_l_capacity (P := P) (w := w) T h_l_draw
  have h_l_other := ok_l_other (P := P) (w := w) T h_l_draw
  have h_greatest_flow := ok_greatest_flow (P := P) (w := w) T h_net_out h_reached_from h_room_left h_steps_from h_way_back
  have h_l_exchange := ok_l_exchange (P := P) (w := w) T h_l_capacity h_l_draw
  have h_l_ways := ok_l_ways (P := P) (w := w) T h_l_capacity h_l_draw h_l_other
  have h_l_more := ok_l_more (P := P) (w := w) T h_l_capacity h_l_draw h_l_other
  have h_l_shows := ok_l_shows (P := P) (w := w) T h_l_ascends h_l_flow h_l_whole h_l_wholes
  have h_l_net := ok_l_net (P := P) (w := w) T h_l_draw h_l_exchange h_l_more h_l_ways
  have h_law := ok_law (P := P) (w := w) T h_l_draw h_l_handed h_l_net h_l_other h_l_shows h_l_source h_greatest_flow
  exact h_law
end Lw
open PySem PySem.W PySem.Calls PyProof.Rows
set_option maxRecDepth 100000 in
set_option maxHeartbeats 0 in
theorem PySem.Challenge.cw_counthall_k41_greatest_flow_holds : PySem.Challenge.rw_counthall_k41_greatest_flow.Holds := by
  w_on; o_law
  refine HandSHeadRun.head_any (r := OpenLaw.row PySem.Challenge.rw_counthall_k41_greatest_flow) (q := view (OpenLaw.row PySem.Challenge.rw_counthall_k41_greatest_flow).prog [22]) (H := Lw.hk) (ob := Lw.obs) (M := 9000) (loose := Lw.loose) (d := HandSHeadRun.topDef (OpenLaw.row PySem.Challenge.rw_counthall_k41_greatest_flow).prog 22) (kwd := []) Lw.obs_eq
    (by kernel_rfl) (fun s => by kernel_rfl) Lw.run (by kernel_rfl) (by kernel_rfl) (by kernel_rfl) (by rfl) (by first | assumption | decide +kernel) (by decide +kernel) ⟨rfl, rfl, rfl, rfl, rfl, by decide +kernel⟩ ?hw ?hc
  case hw => w_witness2
  case hc =>
    refine VL.walk_ofG (l := PySem.Challenge.rw_counthall_k41_greatest_flow) (n := 63) (k := 5) (x := "_law_script") rfl (by decide) (by kernel_rfl) ⟨rfl, by decide, by decide⟩ ?F
    intro w mg fa h Y G hmg0
    obtain ⟨K, KX, c⟩ := Y
    have hmg : mg ("law" : PySem.Str) = some (.ref fa) := by
      have e : (HandSHeadRun.topDef (OpenLaw.row PySem.Challenge.rw_counthall_k41_greatest_flow).prog 22).name = ("law" : PySem.Str) := by kernel_rfl
      rw [← e]
      exact hmg0
    have T := Lw.facts KX G c
    have ef := hmg.symm.trans T.g_law
    cases ef
    obtain ⟨fd, G', _, b⟩ := (Lw.ok_all (P := (PySem.Challenge.rw_counthall_k41_greatest_flow).prog) (w := w) T ⟨by kernel_rfl, by kernel_rfl⟩).ex
    exact ⟨K, fd, VL.spP K 1 Lw.v_law, KX, fun s u => b s [u] rfl, fun H a ns hl _ hS => VL.law_sp Lw.law_true H a ns hl hS, fun base => G' base⟩

