import PyProof.Rows.All
import Wide.All
import OpenK.AllK
import Wide.FinOn
import HandS.ForMost
import HandS.ForExc
import HandS.FStr
import HandS.IsInst
import HandS.Style
import HandS.Flow
import HandS.StrMore
import HandS.TupAny
import KE.GoesMore
import PyProof.EnumMake
import HandS.ReplaceLit
import HandS.ReplaceList
import HandS.ReplaceDef
import PyProof.StrOps2
import HandS.HeadHook3
import HandS.WrittenGet
import PyProof.ExcBaseAll.ValueError
import KE.KExcIs
import HandS.RaiseMore
import HandS.CallLocal
import PyProof.MeetsStr3
import KE.GoesRaise
import PySem.Challenge.RW_asifanew_k81_questions_as_texts
set_option Elab.async false
set_option linter.all false
set_option maxRecDepth 100000
set_option maxHeartbeats 4000000
/-! PL1: a layer of pure data over the hand layer: data D, what stands for them in the heap, lifted readings. -/
namespace PL
open PySem PySem.Spec L2

/-- pure data: texts are lists of code points; lst: a list that stands in the heap by itself; rol: a list that is only read;
    dct: a dict with tuple keys (its keys, its values); obj: an instance of an own class (the class's name, its fields' names, their values) -/
inductive D where
  | non | bl (b : Bool) | int (i : Int) | str (x : List Nat) | tup (xs : List D) | lst (xs : List D) | rol (xs : List D)
  | dct (ks xs : List D) | obj (c : Str) (ns : List Str) (xs : List D)
/-- how a value was come by: only looked at, to be kept, newly made (a list that nobody else holds) -/
inductive Kd where
  | pk | cl | fr
  deriving DecidableEq
inductive R (α : Type) where
  | ok (a : α) | exc (c : Str) | bad
namespace R
def bind {α β : Type} : R α → (α → R β) → R β
  | .ok a, f => f a
  | .exc c, _ => .exc c
  | .bad, _ => .bad
def map {α β : Type} (r : R α) (f : α → β) : R β := r.bind fun a => .ok (f a)
/-- where nothing may be raised -/
def calm {α : Type} : R α → R α
  | .ok a => .ok a
  | _ => .bad
@[simp] theorem bind_ok {α β : Type} (a : α) (f : α → R β) : (R.ok a).bind f = f a := rfl
@[simp] theorem bind_exc {α β : Type} (c : Str) (f : α → R β) : (R.exc c : R α).bind f = .exc c := rfl
@[simp] theorem bind_bad {α β : Type} (f : α → R β) : (R.bad : R α).bind f = .bad := rfl
@[simp] theorem map_ok {α β : Type} (a : α) (f : α → β) : (R.ok a).map f = .ok (f a) := rfl
@[simp] theorem map_exc {α β : Type} (c : Str) (f : α → β) : (R.exc c : R α).map f = .exc c := rfl
@[simp] theorem map_bad {α β : Type} (f : α → β) : (R.bad : R α).map f = .bad := rfl
@[simp] theorem calm_ok {α : Type} (a : α) : (R.ok a).calm = .ok a := rfl
end R
abbrev Ev := Kd × D
abbrev Sl := Option (Bool × D)
abbrev Ro := List Sl
abbrev EF := Ro → R Ev
abbrev TF := Ro → R Bool
abbrev AF := Ro → R (List Ev)

def S (a : List Nat) : Str := ⟨a.toArray⟩
theorem S_len (a : List Nat) : (S a).length = a.length := by simp [S, Str.length]
theorem S_cps (a : List Nat) : (S a).cps.toList = a := by simp [S]
theorem S_inj {a b : List Nat} (h : S a = S b) : a = b := by
  have := congrArg (fun z => z.cps.toList) h
  simpa [S] using this
theorem S_app (a b : List Nat) : S a ++ S b = S (a ++ b) := by
  show (⟨(S a).cps ++ (S b).cps⟩ : Str) = _
  simp [S]
theorem S_of (x : Str) : S x.cps.toList = x := by cases x; simp [S]

/-! ### what stands for data -/
/-- a dict's key -/
def ky1 : D → Option Key
  | .int i => some (.inl i)
  | .str x => some (.inr (S x))
  | _ => none
def ky1s : List D → Option (List Key)
  | [] => some []
  | d :: ds => (ky1 d).bind fun k => (ky1s ds).map fun r => k :: r
def tky : D → Option (List Key)
  | .tup xs => ky1s xs
  | _ => none
def tkys : List D → Option (List (List Key))
  | [] => some []
  | d :: ds => (tky d).bind fun k => (tkys ds).map fun r => k :: r
mutual
def Rp (K : PySem.W.Frag) (H : Hp) : D → V → Prop
  | .non, v => v = .non
  | .bl b, v => v = .bl b
  | .int i, v => v = .int i
  | .str x, v => v = .str (S x)
  | .tup xs, v => ∃ a vs, v = .ref a ∧ SqT K H a vs ∧ RpL K H xs vs
  | .lst xs, v => ∃ a vs, v = .ref a ∧ H a = some (.lst vs) ∧ RpL K H xs vs
  | .rol xs, v => ∃ a vs, v = .ref a ∧ SqL K H a vs ∧ RpL K H xs vs
  | .dct ks xs, v => ∃ a vs, v = .ref a ∧ (∃ kk, tkys ks = some kk ∧ kk.length = vs.length ∧ H a = some (.dT (kk.zip vs))) ∧ RpL K H xs vs
  | .obj c ns xs, v => ∃ a vs, v = .ref a ∧ (∃ C dx, PySem.W.nsIn K mainGlobals c = some (some (.ref C)) ∧ ns.length = vs.length ∧ H a = some (.ins C dx (ns.zip vs))) ∧ RpL K H xs vs
def RpL (K : PySem.W.Frag) (H : Hp) : List D → List V → Prop
  | [], vs => vs = []
  | x :: xs, vs => ∃ v r, vs = v :: r ∧ Rp K H x v ∧ RpL K H xs r
end

theorem same_seqT {K : PySem.W.Frag} {H H' : Hp} {a : Addr} {xs : List V} (e : Same H H') (h : SqT K H a xs) : SqT K H' a xs := by
  rcases h with (h | ⟨o, h⟩) | h
  · exact .inl (.inl (e _ _ h))
  · exact .inl (.inr ⟨o, e _ _ h⟩)
  · exact .inr h

mutual
theorem Rp.mono {K : PySem.W.Frag} {H H' : Hp} (e : Same H H') : ∀ (d : D) (v : V), Rp K H d v → Rp K H' d v
  | .non, _, h => h
  | .bl _, _, h => h
  | .int _, _, h => h
  | .str _, _, h => h
  | .tup xs, _, ⟨a, vs, h1, h2, h3⟩ => ⟨a, vs, h1, same_seqT e h2, RpL.mono e xs vs h3⟩
  | .lst xs, _, ⟨a, vs, h1, h2, h3⟩ => ⟨a, vs, h1, e _ _ h2, RpL.mono e xs vs h3⟩
  | .rol xs, _, ⟨a, vs, h1, h2, h3⟩ => ⟨a, vs, h1, e.seq h2, RpL.mono e xs vs h3⟩
  | .dct _ xs, _, ⟨a, vs, h1, ⟨kk, e1, e2, h2⟩, h3⟩ => ⟨a, vs, h1, ⟨kk, e1, e2, e _ _ h2⟩, RpL.mono e xs vs h3⟩
  | .obj _ _ xs, _, ⟨a, vs, h1, ⟨C, dx, e1, e2, h2⟩, h3⟩ => ⟨a, vs, h1, ⟨C, dx, e1, e2, e _ _ h2⟩, RpL.mono e xs vs h3⟩
theorem RpL.mono {K : PySem.W.Frag} {H H' : Hp} (e : Same H H') : ∀ (ds : List D) (vs : List V), RpL K H ds vs → RpL K H' ds vs
  | [], _, h => h
  | d :: ds, _, ⟨v, r, h1, h2, h3⟩ => ⟨v, r, h1, Rp.mono e d v h2, RpL.mono e ds r h3⟩
end
section
variable {K : PySem.W.Frag} {H H' : Hp}
theorem RpL.len : ∀ {ds : List D} {vs : List V}, RpL K H ds vs → vs.length = ds.length
  | [], _, h => by rw [show _ = _ from h]; rfl
  | _ :: ds, _, ⟨v, r, h1, _, h3⟩ => by rw [h1, List.length_cons, List.length_cons, RpL.len h3]
theorem RpL.get : ∀ {ds : List D} {vs : List V} {i : Nat} {d : D}, RpL K H ds vs → ds[i]? = some d → ∃ v, vs[i]? = some v ∧ Rp K H d v
  | [], _, _, _, _, h => by simp at h
  | _ :: ds, _, 0, d, ⟨v, r, h1, h2, _⟩, h => by
    simp at h; subst h; subst h1; exact ⟨v, rfl, h2⟩
  | _ :: ds, _, i + 1, d, ⟨v, r, h1, _, h3⟩, h => by
    obtain ⟨w, e1, e2⟩ := RpL.get (i := i) h3 (by simpa using h)
    subst h1; exact ⟨w, by simpa using e1, e2⟩
theorem RpL.app : ∀ {ds es : List D} {vs ws : List V}, RpL K H ds vs → RpL K H es ws → RpL K H (ds ++ es) (vs ++ ws)
  | [], _, _, _, h, k => by rw [show _ = _ from h]; exact k
  | _ :: ds, _, _, _, ⟨v, r, h1, h2, h3⟩, k => ⟨v, r ++ _, by rw [h1]; rfl, h2, RpL.app h3 k⟩
theorem RpL.one {d : D} {v : V} (h : Rp K H d v) : RpL K H [d] [v] := ⟨v, [], rfl, h, rfl⟩
theorem RpL.take (n : Nat) : ∀ {ds : List D} {vs : List V}, RpL K H ds vs → RpL K H (ds.take n) (vs.take n) := by
  induction n with
  | zero => intro ds vs _; rfl
  | succ n ih =>
    intro ds vs h
    cases ds with
    | nil => rw [show vs = _ from h]; rfl
    | cons d ds => obtain ⟨v, r, h1, h2, h3⟩ := h; subst h1; exact ⟨v, _, rfl, h2, ih h3⟩
theorem RpL.drop (n : Nat) : ∀ {ds : List D} {vs : List V}, RpL K H ds vs → RpL K H (ds.drop n) (vs.drop n) := by
  induction n with
  | zero => intro ds vs h; exact h
  | succ n ih =>
    intro ds vs h
    cases ds with
    | nil => rw [show vs = _ from h]; rfl
    | cons d ds => obtain ⟨v, r, h1, h2, h3⟩ := h; subst h1; exact ih h3
theorem RpL.set {d : D} {v : V} (q : Rp K H d v) : ∀ {ds : List D} {vs : List V} (i : Nat), RpL K H ds vs → RpL K H (ds.set i d) (vs.set i v)
  | [], _, _, h => by rw [show _ = _ from h]; rfl
  | _ :: ds, _, 0, ⟨w, r, h1, _, h3⟩ => by subst h1; exact ⟨v, r, rfl, q, h3⟩
  | _ :: ds, _, i + 1, ⟨w, r, h1, h2, h3⟩ => by subst h1; exact ⟨w, _, rfl, h2, RpL.set q i h3⟩
theorem RpL.rev : ∀ {ds : List D} {vs : List V}, RpL K H ds vs → RpL K H ds.reverse vs.reverse
  | [], _, h => by rw [show _ = _ from h]; rfl
  | _ :: ds, _, ⟨v, r, h1, h2, h3⟩ => by
    subst h1
    rw [List.reverse_cons, List.reverse_cons]
    exact RpL.app (RpL.rev h3) (RpL.one h2)
theorem RpL.ints : ∀ {ns : List Int} {vs : List V}, RpL K H (ns.map D.int) vs → vs = ns.map V.int
  | [], _, h => h
  | n :: ns, _, ⟨v, r, h1, h2, h3⟩ => by
    have e : v = V.int n := h2
    rw [h1, e, RpL.ints h3]; rfl
theorem RpL.of_ints : ∀ (ns : List Int), RpL K H (ns.map D.int) (ns.map V.int)
  | [] => rfl
  | n :: ns => ⟨_, _, rfl, rfl, RpL.of_ints ns⟩
theorem RpL.bls : ∀ {ns : List Bool} {vs : List V}, RpL K H (ns.map D.bl) vs → vs = ns.map V.bl
  | [], _, h => h
  | n :: ns, _, ⟨v, r, h1, h2, h3⟩ => by
    have e : v = V.bl n := h2
    rw [h1, e, RpL.bls h3]; rfl
theorem RpL.strs : ∀ {ns : List (List Nat)} {vs : List V}, RpL K H (ns.map D.str) vs → vs = (ns.map S).map V.str
  | [], _, h => h
  | n :: ns, _, ⟨v, r, h1, h2, h3⟩ => by
    have e : v = V.str (S n) := h2
    rw [h1, e, RpL.strs h3]; rfl
theorem RpL.of_strs : ∀ (ns : List (List Nat)), RpL K H (ns.map D.str) ((ns.map S).map V.str)
  | [] => rfl
  | n :: ns => ⟨_, _, rfl, rfl, RpL.of_strs ns⟩
end

/-! ### parts of the heap that are not to be seen -/
open Classical in
noncomputable def hd (H : Hp) (P : Addr → Prop) : Hp := fun b => if P b then none else H b
theorem hd_some {H : Hp} {P : Addr → Prop} {b : Addr} {o : HO} : hd H P b = some o ↔ ¬ P b ∧ H b = some o := by
  unfold hd
  by_cases h : P b
  · rw [if_pos h]; exact ⟨fun e => (nomatch e), fun e => absurd h e.1⟩
  · rw [if_neg h]; exact ⟨fun e => ⟨h, e⟩, fun e => e.2⟩
theorem hd_le {H : Hp} {P : Addr → Prop} : Same (hd H P) H := fun _ _ h => (hd_some.mp h).2
theorem hd_mono {H H' : Hp} {P P' : Addr → Prop} (h : ∀ b o, H b = some o → ¬ P b → H' b = some o ∧ ¬ P' b) : Same (hd H P) (hd H' P') := fun b o e => by
  obtain ⟨e1, e2⟩ := hd_some.mp e
  obtain ⟨e3, e4⟩ := h b o e2 e1
  exact hd_some.mpr ⟨e4, e3⟩
theorem hd_same {H H' : Hp} {P : Addr → Prop} (s : Same H H') : Same (hd H P) (hd H' P) := hd_mono fun b o e n => ⟨s b o e, n⟩
abbrev Own := Nat → Option Addr
def ob (hid : Addr → Prop) (own : Own) (b : Addr) : Prop := hid b ∨ ∃ i, own i = some b
abbrev noOwn : Own := fun _ => none
theorem ob_no {hid : Addr → Prop} {b : Addr} : ob hid noOwn b ↔ hid b := ⟨fun h => h.elim (fun z => z) (fun ⟨_, e⟩ => (nomatch e)), fun h => Or.inl h⟩
theorem hd_ob_hid {H : Hp} {hid : Addr → Prop} {own : Own} : Same (hd H (ob hid own)) (hd H hid) := hd_mono fun _ _ e n => ⟨e, fun z => n (.inl z)⟩
theorem hd_no {H : Hp} {hid : Addr → Prop} : Same (hd H hid) (hd H (ob hid noOwn)) := hd_mono fun _ _ e n => ⟨e, fun z => n (ob_no.mp z)⟩

/-- an object of the call's own, its parts to be seen in Hc -/
def MR (K : PySem.W.Frag) (Hc : Hp) (o : Option HO) : D → Prop
  | .lst ds => ∃ vs, o = some (.lst vs) ∧ RpL K Hc ds vs
  | .dct ks ds => ∃ vs, (∃ kk, tkys ks = some kk ∧ kk.length = vs.length ∧ o = some (.dT (kk.zip vs))) ∧ RpL K Hc ds vs
  | .obj c ns ds => ∃ vs, (∃ C dx, PySem.W.nsIn K mainGlobals c = some (some (.ref C)) ∧ ns.length = vs.length ∧ o = some (.ins C dx (ns.zip vs))) ∧ RpL K Hc ds vs
  | _ => False
/-- what may be a call's own -/
def Ownd : HO → Prop
  | .lst _ => True
  | .dT _ => True
  | .ins _ _ _ => True
  | _ => False
/-- a value that is looked at: a list may be one of the call's own, what it holds is to be seen -/
def RT (K : PySem.W.Frag) (hid : Addr → Prop) (own : Own) (H : Hp) : D → V → Prop
  | .lst ds, v => ∃ a vs, v = .ref a ∧ hd H hid a = some (.lst vs) ∧ RpL K (hd H (ob hid own)) ds vs
  | .dct ks ds, v => ∃ a vs, v = .ref a ∧ (∃ kk, tkys ks = some kk ∧ kk.length = vs.length ∧ hd H hid a = some (.dT (kk.zip vs))) ∧ RpL K (hd H (ob hid own)) ds vs
  | .obj c ns ds, v => ∃ a vs, v = .ref a ∧ (∃ C dx, PySem.W.nsIn K mainGlobals c = some (some (.ref C)) ∧ ns.length = vs.length ∧ hd H hid a = some (.ins C dx (ns.zip vs))) ∧ RpL K (hd H (ob hid own)) ds vs
  | d, v => Rp K (hd H (ob hid own)) d v
def RV (K : PySem.W.Frag) (hid : Addr → Prop) (own : Own) (H H' : Hp) : Kd → D → V → Prop
  | .pk, d, v => RT K hid own H' d v
  | .cl, d, v => Rp K (hd H' (ob hid own)) d v
  | .fr, d, v => ∃ a, v = .ref a ∧ H a = none ∧ ¬ ob hid own a ∧ MR K (hd H' fun b => ob hid own b ∨ b = a) (H' a) d
structure SR (K : PySem.W.Frag) (hid : Addr → Prop) (own : Own) (H : Hp) (ρ : Ro) (σ : St) : Prop where
  len : ρ.length = σ.length
  val : ∀ (i : Nat) (d : D), ρ[i]? = some (some (false, d)) → ∃ v, σ[i]? = some (some v) ∧ Rp K (hd H (ob hid own)) d v
  ow : ∀ (i : Nat) (d : D), ρ[i]? = some (some (true, d)) → ∃ a, own i = some a ∧ σ[i]? = some (some (.ref a)) ∧ MR K (hd H (ob hid own)) (H a) d
  inj : ∀ (i j : Nat) (a : Addr), own i = some a → own j = some a → i = j
  oh : ∀ (i : Nat) (a : Addr), own i = some a → ¬ hid a ∧ (∃ o, H a = some o ∧ Ownd o) ∧ ∃ d, ρ[i]? = some (some (true, d))
  hin : ∀ b, hid b → H b ≠ none

section
variable {K : PySem.W.Frag} {hid : Addr → Prop} {own : Own} {H H1 H2 H' : Hp} {ρ : Ro} {σ : St}
theorem MR.mono {Hc Hc' : Hp} {o : Option HO} : ∀ {d : D}, Same Hc Hc' → MR K Hc o d → MR K Hc' o d
  | .lst _, s, ⟨vs, e, r⟩ => ⟨vs, e, RpL.mono s _ _ r⟩
  | .dct _ _, s, ⟨vs, e, r⟩ => ⟨vs, e, RpL.mono s _ _ r⟩
  | .obj _ _ _, s, ⟨vs, e, r⟩ => ⟨vs, e, RpL.mono s _ _ r⟩
  | .non, _, h => h.elim
  | .bl _, _, h => h.elim
  | .int _, _, h => h.elim
  | .str _, _, h => h.elim
  | .tup _, _, h => h.elim
  | .rol _, _, h => h.elim
theorem RT.mono (s : Same H H') : ∀ {d : D} {v : V}, RT K hid own H d v → RT K hid own H' d v
  | .lst _, _, ⟨a, vs, h1, h2, h3⟩ => ⟨a, vs, h1, hd_same s _ _ h2, RpL.mono (hd_same s) _ _ h3⟩
  | .dct _ _, _, ⟨a, vs, h1, ⟨kk, e1, e2, h2⟩, h3⟩ => ⟨a, vs, h1, ⟨kk, e1, e2, hd_same s _ _ h2⟩, RpL.mono (hd_same s) _ _ h3⟩
  | .obj _ _ _, _, ⟨a, vs, h1, ⟨C, dx, e1, e2, h2⟩, h3⟩ => ⟨a, vs, h1, ⟨C, dx, e1, e2, hd_same s _ _ h2⟩, RpL.mono (hd_same s) _ _ h3⟩
  | .non, _, h => h
  | .bl _, _, h => h
  | .int _, _, h => h
  | .str _, _, h => h
  | .tup _, v, h => Rp.mono (hd_same s) _ _ h
  | .rol _, v, h => Rp.mono (hd_same s) _ _ h
theorem RT.of_cl : ∀ {d : D} {v : V}, Rp K (hd H (ob hid own)) d v → RT K hid own H d v
  | .lst _, _, ⟨a, vs, h1, h2, h3⟩ => ⟨a, vs, h1, hd_ob_hid _ _ h2, h3⟩
  | .dct _ _, _, ⟨a, vs, h1, ⟨kk, e1, e2, h2⟩, h3⟩ => ⟨a, vs, h1, ⟨kk, e1, e2, hd_ob_hid _ _ h2⟩, h3⟩
  | .obj _ _ _, _, ⟨a, vs, h1, ⟨C, dx, e1, e2, h2⟩, h3⟩ => ⟨a, vs, h1, ⟨C, dx, e1, e2, hd_ob_hid _ _ h2⟩, h3⟩
  | .non, _, h => h
  | .bl _, _, h => h
  | .int _, _, h => h
  | .str _, _, h => h
  | .tup _, v, h => h
  | .rol _, v, h => h
/-- is it a list? -/
def isL : D → Bool
  | .lst _ => true
  | .dct _ _ => true
  | .obj _ _ _ => true
  | _ => false
theorem RT.cl : ∀ {d : D} {v : V}, isL d = false → RT K hid own H d v → Rp K (hd H (ob hid own)) d v
  | .lst _, _, n, _ => nomatch n
  | .dct _ _, _, n, _ => nomatch n
  | .obj _ _ _, _, n, _ => nomatch n
  | .non, _, _, h => h
  | .bl _, _, _, h => h
  | .int _, _, _, h => h
  | .str _, _, _, h => h
  | .tup _, v, _, h => h
  | .rol _, v, _, h => h
/-- what is looked at, in the heap without what the callers hide -/
theorem RT.rp : ∀ {d : D} {v : V}, RT K hid own H d v → Rp K (hd H hid) d v
  | .lst _, _, ⟨a, vs, h1, h2, h3⟩ => ⟨a, vs, h1, h2, RpL.mono hd_ob_hid _ _ h3⟩
  | .dct _ _, _, ⟨a, vs, h1, h2, h3⟩ => ⟨a, vs, h1, h2, RpL.mono hd_ob_hid _ _ h3⟩
  | .obj _ _ _, _, ⟨a, vs, h1, h2, h3⟩ => ⟨a, vs, h1, h2, RpL.mono hd_ob_hid _ _ h3⟩
  | .non, _, h => h
  | .bl _, _, h => h
  | .int _, _, h => h
  | .str _, _, h => h
  | .tup _, v, h => Rp.mono hd_ob_hid _ _ h
  | .rol _, v, h => Rp.mono hd_ob_hid _ _ h
theorem RV.fr_cl {a : Addr} {d : D} (ha : ¬ ob hid own a) (h : MR K (hd H' fun b => ob hid own b ∨ b = a) (H' a) d) : Rp K (hd H' (ob hid own)) d (.ref a) := by
  cases d with
  | lst ds =>
    obtain ⟨vs, e, r⟩ := h
    exact ⟨a, vs, rfl, hd_some.mpr ⟨ha, e⟩, RpL.mono (hd_mono fun b o e n => ⟨e, fun z => n (.inl z)⟩) _ _ r⟩
  | dct ks ds =>
    obtain ⟨vs, ⟨kk, e1, e2, e⟩, r⟩ := h
    exact ⟨a, vs, rfl, ⟨kk, e1, e2, hd_some.mpr ⟨ha, e⟩⟩, RpL.mono (hd_mono fun b o e n => ⟨e, fun z => n (.inl z)⟩) _ _ r⟩
  | obj c ns ds =>
    obtain ⟨vs, ⟨C, dx, e1, e2, e⟩, r⟩ := h
    exact ⟨a, vs, rfl, ⟨C, dx, e1, e2, hd_some.mpr ⟨ha, e⟩⟩, RpL.mono (hd_mono fun b o e n => ⟨e, fun z => n (.inl z)⟩) _ _ r⟩
  | _ => exact h.elim
theorem RV.rt : ∀ {k : Kd} {d : D} {v : V}, RV K hid own H H' k d v → RT K hid own H' d v
  | .pk, _, _, h => h
  | .cl, _, _, h => RT.of_cl h
  | .fr, _, _, ⟨a, e, _, ha, m⟩ => by rw [e]; exact RT.of_cl (RV.fr_cl ha m)
/-- may it be kept? -/
def okE : Ev → Bool
  | (.pk, d) => !isL d
  | _ => true
theorem RV.clean : ∀ {k : Kd} {d : D} {v : V}, okE (k, d) = true → RV K hid own H H' k d v → Rp K (hd H' (ob hid own)) d v
  | .pk, d, _, o, h => RT.cl (by have o : (!isL d) = true := o; simpa using o) h
  | .cl, _, _, _, h => h
  | .fr, _, _, _, ⟨a, e, _, ha, m⟩ => by rw [e]; exact RV.fr_cl ha m
theorem RV.base (s : Same H H1) : ∀ {k : Kd} {d : D} {v : V}, RV K hid own H1 H' k d v → RV K hid own H H' k d v
  | .pk, _, _, h => h
  | .cl, _, _, h => h
  | .fr, _, _, ⟨a, e, n, m⟩ => ⟨a, e, s.free n, m⟩
theorem SR.mono (s : Same H H') (h : SR K hid own H ρ σ) : SR K hid own H' ρ σ where
  len := h.len
  val := fun i d e => let ⟨v, e1, e2⟩ := h.val i d e; ⟨v, e1, Rp.mono (hd_same s) _ _ e2⟩
  ow := fun i d e => by
    obtain ⟨a, e1, e2, e3⟩ := h.ow i d e
    refine ⟨a, e1, e2, ?_⟩
    obtain ⟨_, ⟨xs, e4, _⟩, _⟩ := h.oh i a e1
    rw [s _ _ e4, ← e4]
    exact e3.mono (hd_same s)
  inj := h.inj
  oh := fun i a e => let ⟨h1, ⟨xs, h2, h4⟩, h3⟩ := h.oh i a e; ⟨h1, ⟨xs, s _ _ h2, h4⟩, h3⟩
  hin := fun b hb z => h.hin b hb (s.free z)
/-- what is not to be seen stands in the heap -/
theorem SR.dom (h : SR K hid own H ρ σ) : ∀ b, ob hid own b → H b ≠ none
  | b, .inl z => h.hin b z
  | b, .inr ⟨i, e⟩ => by
    obtain ⟨_, ⟨xs, h2, _⟩, _⟩ := h.oh i b e
    rw [h2]; exact fun z => nomatch z
theorem SR.vis (h : SR K hid own H ρ σ) {p : Addr} (n : H p = none) : ¬ ob hid own p := fun z => h.dom p z n
end

/-! ### readings -/
theorem imp_pe {X : Cx} {e : Expr} {t t' : TE} (h : PE X e t) (k : ∀ σ H Q, t' σ H Q → t σ H Q) : PE X e t' := ⟨fun pins s σ H Q I q => h.run pins s σ H Q I (k _ _ _ q)⟩
theorem imp_pt {X : Cx} {e : Expr} {t t' : TT} (h : PT X e t) (k : ∀ σ H Q, t' σ H Q → t σ H Q) : PT X e t' := ⟨fun pins s σ H Q I q => h.run pins s σ H Q I (k _ _ _ q)⟩
theorem imp_pw {X : Cx} {e : Expr} {t t' : TT} (h : PW X e t) (k : ∀ σ H Q, t' σ H Q → t σ H Q) : PW X e t' := ⟨fun wh pins s σ H Q I q => h.run wh pins s σ H Q I (k _ _ _ q)⟩
theorem imp_pa {X : Cx} {e : List Expr} {t t' : TA} (h : PA X e t) (k : ∀ σ H Q, t' σ H Q → t σ H Q) : PA X e t' := ⟨fun pos pins s σ H Q I q => h.run pos pins s σ H Q I (k _ _ _ q)⟩
theorem imp_ps {X : Cx} {e : Stmt} {t t' : TS} (h : PS X e t) (k : ∀ D σ H, t' D σ H → t D σ H) : PS X e t' := ⟨fun pins s σ H D I q => h.run pins s σ H D I (k _ _ _ q)⟩
theorem imp_pss {X : Cx} {e : List Stmt} {t t' : TS} (h : PSs X e t) (k : ∀ D σ H, t' D σ H → t D σ H) : PSs X e t' := ⟨fun pins s σ H D I q => h.run pins s σ H D I (k _ _ _ q)⟩

/-- how an exception of the class c is wished for -/
abbrev Wc (mg : Str → Option Value) (W : WX) (σ : St) (c : Str) (H : Hp) : Prop := ∀ C, mg c = some (.ref C) → W (.ref C) none σ H
def Post (K : PySem.W.Frag) (hid : Addr → Prop) (own : Own) (H : Hp) (Wx : Str → Hp → Prop) (r : R Ev) (Q : VK) : Prop :=
  match r with
  | .ok e => ∀ H' v, Same H H' → RV K hid own H H' e.1 e.2 v → Q v H'
  | .exc c => ∀ H', Same H H' → Wx c H'
  | .bad => False
def PostT (H : Hp) (Wx : Str → Hp → Prop) (r : R Bool) (Q : Bool → Hp → Prop) : Prop :=
  match r with
  | .ok b => ∀ H', Same H H' → Q b H'
  | .exc c => ∀ H', Same H H' → Wx c H'
  | .bad => False
def RVs (K : PySem.W.Frag) (hid : Addr → Prop) (own : Own) (H H' : Hp) : List Ev → List V → Prop
  | [], vs => vs = []
  | e :: es, vs => ∃ v r, vs = v :: r ∧ RV K hid own H H' e.1 e.2 v ∧ RVs K hid own H H' es r
def PostA (K : PySem.W.Frag) (hid : Addr → Prop) (own : Own) (H : Hp) (Wx : Str → Hp → Prop) (r : R (List Ev)) (Q : List V → Hp → Prop) : Prop :=
  match r with
  | .ok es => ∀ H' vs, Same H H' → (∀ b, ob hid own b → H' b ≠ none) → RVs K hid own H H' es vs → Q vs H'
  | .exc c => ∀ H', Same H H' → Wx c H'
  | .bad => False
def tE (K : PySem.W.Frag) (mg : Str → Option Value) (W : WX) (f : EF) : TE := fun σ H Q => ∃ hid own ρ, SR K hid own H ρ σ ∧ Post K hid own H (Wc mg W σ) (f ρ) Q
def tT (K : PySem.W.Frag) (mg : Str → Option Value) (W : WX) (f : TF) : TT := fun σ H Q => ∃ hid own ρ, SR K hid own H ρ σ ∧ PostT H (Wc mg W σ) (f ρ) Q
def tA (K : PySem.W.Frag) (mg : Str → Option Value) (W : WX) (f : AF) : TA := fun σ H Q => ∃ hid own ρ, SR K hid own H ρ σ ∧ PostA K hid own H (Wc mg W σ) (f ρ) Q
abbrev DE (X : Cx) (W : WX) (e : Expr) (f : EF) : Prop := PE X e (tE X.K X.mg W f)
abbrev DT (X : Cx) (W : WX) (e : Expr) (f : TF) : Prop := PT X e (tT X.K X.mg W f)
abbrev DW (X : Cx) (W : WX) (e : Expr) (f : TF) : Prop := PW X e (tT X.K X.mg W f)
abbrev DA (X : Cx) (W : WX) (e : List Expr) (f : AF) : Prop := PA X e (tA X.K X.mg W f)

section
variable {K : PySem.W.Frag} {hid : Addr → Prop} {own : Own} {H H1 H2 H' : Hp} {ρ : Ro} {σ : St} {Wx : Str → Hp → Prop}
theorem Post.mono {r : R Ev} {Q : VK} (s : Same H H1) (h : Post K hid own H Wx r Q) : Post K hid own H1 Wx r Q := by
  cases r with
  | ok e => exact fun H' v s' q => h H' v (s.trans s') (q.base s)
  | exc c => exact fun H' s' => h H' (s.trans s')
  | bad => exact h
theorem PostT.mono {r : R Bool} {Q : Bool → Hp → Prop} (s : Same H H1) (h : PostT H Wx r Q) : PostT H1 Wx r Q := by
  cases r with
  | ok e => exact fun H' s' => h H' (s.trans s')
  | exc c => exact fun H' s' => h H' (s.trans s')
  | bad => exact h
theorem RVs.base (s : Same H H1) : ∀ {es : List Ev} {vs : List V}, RVs K hid own H1 H' es vs → RVs K hid own H H' es vs
  | [], _, h => h
  | _ :: _, _, ⟨v, r, e, a, b⟩ => ⟨v, r, e, a.base s, RVs.base s b⟩
theorem PostA.mono {r : R (List Ev)} {Q : List V → Hp → Prop} (s : Same H H1) (h : PostA K hid own H Wx r Q) : PostA K hid own H1 Wx r Q := by
  cases r with
  | ok e => exact fun H' vs s' d q => h H' vs (s.trans s') d (q.base s)
  | exc c => exact fun H' s' => h H' (s.trans s')
  | bad => exact h
/-- one part's reading from the whole's -/
theorem Post.part {r : R Ev} {g : Ev → R Ev} {Q T : VK} (h : Post K hid own H Wx (r.bind g) Q)
    (k : ∀ e H1 v, Same H H1 → RV K hid own H H1 e.1 e.2 v → Post K hid own H1 Wx (g e) Q → T v H1) : Post K hid own H Wx r T := by
  cases r with
  | ok e => exact fun H1 v s q => k e H1 v s q (Post.mono s h)
  | exc c => exact h
  | bad => exact h
theorem PostT.part {r : R Bool} {g : Bool → R Bool} {Q T : Bool → Hp → Prop} (h : PostT H Wx (r.bind g) Q)
    (k : ∀ e H1, Same H H1 → PostT H1 Wx (g e) Q → T e H1) : PostT H Wx r T := by
  cases r with
  | ok e => exact fun H1 s => k e H1 s (PostT.mono s h)
  | exc c => exact h
  | bad => exact h
theorem PostT.partE {r : R Ev} {g : Ev → R Bool} {Q : Bool → Hp → Prop} {T : VK} (h : PostT H Wx (r.bind g) Q)
    (k : ∀ e H1 v, Same H H1 → RV K hid own H H1 e.1 e.2 v → PostT H1 Wx (g e) Q → T v H1) : Post K hid own H Wx r T := by
  cases r with
  | ok e => exact fun H1 v s q => k e H1 v s q (PostT.mono s h)
  | exc c => exact h
  | bad => exact h
theorem Post.partT {r : R Bool} {g : Bool → R Ev} {Q : VK} {T : Bool → Hp → Prop} (h : Post K hid own H Wx (r.bind g) Q)
    (k : ∀ e H1, Same H H1 → Post K hid own H1 Wx (g e) Q → T e H1) : PostT H Wx r T := by
  cases r with
  | ok e => exact fun H1 s => k e H1 s (Post.mono s h)
  | exc c => exact h
  | bad => exact h
end
end PL
set_option Elab.async false
set_option linter.all false
set_option maxRecDepth 100000
set_option maxHeartbeats 4000000
/-! PL2: the rules of expressions over pure data. -/
namespace PL
open PySem PySem.Spec L2

section
variable {K : PySem.W.Frag} {hid : Addr → Prop} {own : Own} {H H1 H2 H' : Hp} {ρ : Ro} {σ : L2.St} {Wx : Str → Hp → Prop} {Q : VK}
theorem Post.now {d : D} {v : V} (h : Post K hid own H Wx (.ok (.cl, d)) Q) (r : Rp K (hd H (ob hid own)) d v) : Q v H := h H v (Same.refl H) r
theorem Post.nowT {d : D} {v : V} (h : Post K hid own H Wx (.ok (.pk, d)) Q) (r : RT K hid own H d v) : Q v H := h H v (Same.refl H) r
theorem sameUpd {H : Hp} {p : Addr} {o : HO} (h : H p = none) : Same H (upd H p o) := fun b x e => by
  rw [upd_ne (ne_of_none e h)]; exact e
theorem Post.newL {p : Addr} {ds : List D} {vs : List V} (h : Post K hid own H Wx (.ok (.fr, .lst ds)) Q) (np : H p = none) (nb : ¬ ob hid own p) (r : RpL K (hd H (ob hid own)) ds vs) : Q (.ref p) (upd H p (.lst vs)) := by
  refine h _ _ (sameUpd np) ⟨p, rfl, np, nb, vs, upd_same, RpL.mono (hd_mono fun b o e n => ?_) _ _ r⟩
  have hb : b ≠ p := ne_of_none e np
  exact ⟨by rw [upd_ne hb]; exact e, fun z => z.elim n hb⟩
theorem Post.newT {p : Addr} {ds : List D} {vs : List V} (h : Post K hid own H Wx (.ok (.cl, .tup ds)) Q) (np : H p = none) (nb : ¬ ob hid own p) (r : RpL K (hd H (ob hid own)) ds vs) : Q (.ref p) (upd H p (.tup vs)) := by
  refine h _ _ (sameUpd np) ⟨p, vs, rfl, .inl (.inl (hd_some.mpr ⟨nb, upd_same⟩)), RpL.mono (hd_same (sameUpd np)) _ _ r⟩
end

/-! ### names and constants -/
def eVar (i : Nat) : EF := fun ρ => match ρ[i]? with
  | some (some (true, d)) => .ok (.pk, d)
  | some (some (false, d)) => .ok (.cl, d)
  | _ => .bad
def eC (d : D) : EF := fun _ => .ok (.cl, d)
section
variable {X : Cx} {W : WX}
theorem own_rt {K : PySem.W.Frag} {hid : Addr → Prop} {own : Own} {H : Hp} {ρ : Ro} {σ : L2.St} (hS : SR K hid own H ρ σ) {i : Nat} {d : D} (e : ρ[i]? = some (some (true, d))) : ∃ v, σ[i]? = some (some v) ∧ RT K hid own H d v := by
  obtain ⟨a, e1, e2, e3⟩ := hS.ow i d e
  refine ⟨_, e2, ?_⟩
  cases d with
  | lst ds =>
    obtain ⟨vs, e4, e5⟩ := e3
    exact ⟨a, vs, rfl, hd_some.mpr ⟨(hS.oh i a e1).1, e4⟩, e5⟩
  | dct ks ds =>
    obtain ⟨vs, ⟨kk, q1, q2, e4⟩, e5⟩ := e3
    exact ⟨a, vs, rfl, ⟨kk, q1, q2, hd_some.mpr ⟨(hS.oh i a e1).1, e4⟩⟩, e5⟩
  | obj c ns ds =>
    obtain ⟨vs, ⟨C, dx, q1, q2, e4⟩, e5⟩ := e3
    exact ⟨a, vs, rfl, ⟨C, dx, q1, q2, hd_some.mpr ⟨(hS.oh i a e1).1, e4⟩⟩, e5⟩
  | _ => exact e3.elim
theorem de_var (i : Nat) {x : Str} {pos : Pos} (h : PE X (.Name x pos) (tVar i)) : DE X W (.Name x pos) (eVar i) := by
  refine imp_pe h fun σ H Q ⟨hid, own, ρ, hS, q⟩ => ?_
  unfold eVar at q
  split at q
  · rename_i d e
    obtain ⟨v, e1, e2⟩ := own_rt hS e
    exact ⟨v, e1, q.nowT e2⟩
  · rename_i d e
    obtain ⟨v, e1, e2⟩ := hS.val i d e
    exact ⟨v, e1, q.now e2⟩
  · exact q.elim
theorem de_c {e : Expr} {v : V} (d : D) (h : PE X e (tC v)) (r : ∀ H : Hp, Rp X.K H d v) : DE X W e (eC d) :=
  imp_pe h fun σ H Q ⟨hid, own, ρ, hS, q⟩ => q.now (r _)
theorem de_int {i : Int} {j pos} : DE X W (.Constant (.int i) j pos) (eC (.int i)) := de_c _ pe_int fun _ => rfl
theorem de_bl {i : Bool} {j pos} : DE X W (.Constant (.bool i) j pos) (eC (.bl i)) := de_c _ pe_bl fun _ => rfl
theorem de_non {j pos} : DE X W (.Constant .none j pos) (eC .non) := de_c _ pe_non fun _ => rfl
theorem de_str {x : Str} (a : List Nat) {j pos} (h : x = S a := by decide +kernel) : DE X W (.Constant (.str x) j pos) (eC (.str a)) := de_c _ pe_str fun _ => by rw [h]; rfl
theorem de_gint {x : Str} {i : Int} {t : Tok} {pos : Pos} (hg : Gl X x) (hm : X.mg x = some (.int i t)) (hd : (x == ("__debug__" : Str)) = false := by decide) : DE X W (.Name x pos) (eC (.int i)) := de_c _ (pe_glob (v := .int i) hg hm ⟨t, rfl⟩ hd) fun _ => rfl
theorem de_gstr {x y : Str} {t : Tok} (a : List Nat) {pos : Pos} (hg : Gl X x) (hm : X.mg x = some (.str y t)) (h : y = S a := by decide +kernel) (hd : (x == ("__debug__" : Str)) = false := by decide) : DE X W (.Name x pos) (eC (.str a)) := de_c _ (pe_glob (v := .str y) hg hm ⟨t, rfl⟩ hd) fun _ => by rw [h]; rfl
end

/-! ### operators -/
def op2 (g : D → D → R Ev) (fa fb : EF) : EF := fun ρ => (fa ρ).bind fun x => (fb ρ).bind fun y => g x.2 y.2
def op1 (g : D → R Ev) (fa : EF) : EF := fun ρ => (fa ρ).bind fun x => g x.2
def OpG (K : PySem.W.Frag) (r : R2) (g : D → D → R Ev) : Prop := ∀ {hid own H Wx x y dx dy Q}, (∀ b, ob hid own b → H b ≠ none) → RT K hid own H dx x → RT K hid own H dy y → Post K hid own H Wx (g dx dy) Q → r x y H Q
section
variable {X : Cx} {W : WX} {a b : Expr} {fa fb : EF} {r : R2} {g : D → D → R Ev} {pos : Pos}
theorem two (hg : OpG X.K r g) : ∀ σ H Q, tE X.K X.mg W (op2 g fa fb) σ H Q → tOp r (tE X.K X.mg W fa) (tE X.K X.mg W fb) σ H Q := fun σ H Q ⟨hid, own, ρ, hS, h⟩ =>
  ⟨hid, own, ρ, hS, Post.part h fun e1 H1 x s1 r1 h1 => ⟨hid, own, ρ, hS.mono s1, Post.part h1 fun e2 H2 y s2 r2 h2 => hg ((hS.mono s1).mono s2).dom (r1.rt.mono s2) r2.rt h2⟩⟩
theorem de_op {op : Operator} (ho : OpR X (binaryOp op) r) (hg : OpG X.K r g) (ha : DE X W a fa) (hb : DE X W b fb) : DE X W (.BinOp a op b pos) (op2 g fa fb) := imp_pe (pe_op ho ha hb) (two hg)
theorem de_cmp {op : CmpOp} (ho : OpR X (compareOp op) r) (hg : OpG X.K r g) (ha : DE X W a fa) (hb : DE X W b fb) (hm : behindInMarks op b = false) : DE X W (.Compare a [op] [b] pos) (op2 g fa fb) := imp_pe (pe_cmpR ho ha hb hm) (two hg)
/-- a comparison as a test -/
def asB : Ev → R Bool
  | (_, .bl b) => .ok b
  | _ => .bad
def t2 (g : D → D → R Ev) (fa fb : EF) : TF := fun ρ => (op2 g fa fb ρ).bind asB
theorem bl_of {K : PySem.W.Frag} {hid : Addr → Prop} {own : Own} {H H' : Hp} {k : Kd} {b : Bool} {v : V} (h : RV K hid own H H' k (.bl b) v) : v = .bl b := h.rt
theorem test_of {f : EF} : ∀ σ H Q, tT X.K X.mg W (fun ρ => (f ρ).bind asB) σ H Q → tTest (tE X.K X.mg W f) σ H Q := fun σ H Q ⟨hid, own, ρ, hS, h⟩ =>
  ⟨hid, own, ρ, hS, PostT.partE h fun e H1 v s1 r1 h1 => by
    obtain ⟨k, d⟩ := e
    cases d with
    | bl b => exact ⟨b, bl_of r1, h1 H1 (Same.refl _)⟩
    | _ => exact h1.elim⟩
theorem tTest_mono {t t' : TE} (k : ∀ σ H Q, t σ H Q → t' σ H Q) : ∀ σ H Q, tTest t σ H Q → tTest t' σ H Q := fun σ H Q h => k σ H _ h
theorem dt_cmp {op : CmpOp} (ho : OpR X (compareOp op) r) (hg : OpG X.K r g) (ha : DE X W a fa) (hb : DE X W b fb) (hm : behindInMarks op b = false) : DT X W (.Compare a [op] [b] pos) (t2 g fa fb) :=
  imp_pt (pt_cmpR ho ha hb hm) fun σ H Q h => tTest_mono (two hg) σ H Q (test_of σ H Q h)

theorem OpG.or {K : PySem.W.Frag} {r r' : R2} {g g' : D → D → R Ev} (p : D → D → Bool) (h : OpG K r g) (h' : OpG K r' g') : OpG K (fun x y H Q => r x y H Q ∨ r' x y H Q) (fun x y => if p x y = true then g x y else g' x y) := by
  intro hid own H Wx x y dx dy Q hb rx ry q
  have q : Post K hid own H Wx (if p dx dy = true then g dx dy else g' dx dy) Q := q
  by_cases c : p dx dy = true
  · rw [if_pos c] at q; exact .inl (h hb rx ry q)
  · rw [if_neg c] at q; exact .inr (h' hb rx ry q)

/-! #### whole numbers -/
def gI (c : Int → Int → Bool) (f : Int → Int → Int) : D → D → R Ev
  | .int i, .int j => if c i j = true then .ok (.cl, .int (f i j)) else .bad
  | _, _ => .bad
theorem opg_I {K : PySem.W.Frag} {C : Int → Int → Prop} {c : Int → Int → Bool} {f : Int → Int → Int} (hc : ∀ i j, c i j = true → C i j) : OpG K (rI C fun i j => .int (f i j)) (gI c f) := by
  intro hid own H Wx x y dx dy Q hb rx ry q
  unfold gI at q
  split at q
  · rename_i i j
    split at q
    · rename_i h
      exact ⟨i, j, rx, ry, hc i j h, q.now rfl⟩
    · exact q.elim
  · exact q.elim
def gI0 (f : Int → Int → Int) : D → D → R Ev
  | .int i, .int j => .ok (.cl, .int (f i j))
  | _, _ => .bad
theorem opg_I0 {K : PySem.W.Frag} {f : Int → Int → Int} : OpG K (rI0 fun i j => .int (f i j)) (gI0 f) := by
  intro hid own H Wx x y dx dy Q hb rx ry q
  unfold gI0 at q
  split at q
  · exact ⟨_, _, rx, ry, q.now rfl⟩
  · exact q.elim
def cMul (i j : Int) : Bool := decide (-(2 ^ 64) < i ∧ i < 2 ^ 64) || decide (-(2 ^ 64) < j ∧ j < 2 ^ 64)
def gSub := gI0 fun i j => i - j
def gMulI := gI cMul fun i j => i * j
def gMod := gI (fun _ j => decide (0 < j)) fun i j => i % j
def gFdiv := gI (fun _ j => decide (0 < j ∧ j < 1073741824)) fun i j => i / j
def gPow := gI (fun i j => decide (0 ≤ j ∧ j ≤ 1000000 ∧ i.natAbs < 2 ^ 64)) fun i j => i ^ j.toNat
theorem de_sub (ha : DE X W a fa) (hb : DE X W b fb) : DE X W (.BinOp a .Sub b pos) (op2 gSub fa fb) := de_op op_sub opg_I0 ha hb
theorem de_mulI (ha : DE X W a fa) (hb : DE X W b fb) : DE X W (.BinOp a .Mult b pos) (op2 gMulI fa fb) := de_op op_mul (opg_I fun i j h => by
  unfold cMul at h
  rw [Bool.or_eq_true, decide_eq_true_eq, decide_eq_true_eq] at h
  exact h) ha hb
theorem de_mod (ha : DE X W a fa) (hb : DE X W b fb) : DE X W (.BinOp a .Mod b pos) (op2 gMod fa fb) := de_op op_mod (opg_I fun i j h => of_decide_eq_true h) ha hb
theorem de_fdiv (ha : DE X W a fa) (hb : DE X W b fb) : DE X W (.BinOp a .FloorDiv b pos) (op2 gFdiv fa fb) := de_op op_fdiv (opg_I fun i j h => of_decide_eq_true h) ha hb
theorem de_pow (ha : DE X W a fa) (hb : DE X W b fb) : DE X W (.BinOp a .Pow b pos) (op2 gPow fa fb) := de_op op_pow (opg_I fun i j h => of_decide_eq_true h) ha hb

/-! #### + -/
def gAddS : D → D → R Ev
  | .str a, .str b => if a.length + b.length ≤ 16777216 then .ok (.cl, .str (a ++ b)) else .bad
  | _, _ => .bad
theorem opg_addS {K : PySem.W.Frag} : OpG K (fun x y H Q => ∃ i j, x = .str i ∧ y = .str j ∧ i.length + j.length ≤ sizeLine ∧ Q (.str (i ++ j)) H) gAddS := by
  intro hid own H Wx x y dx dy Q hb rx ry q
  unfold gAddS at q
  split at q
  · split at q
    · rename_i h
      refine ⟨_, _, rx, ry, by rw [S_len, S_len, sizeLine_eq]; exact h, ?_⟩
      rw [S_app]
      exact q.now rfl
    · exact q.elim
  · exact q.elim
def gAddL : D → D → R Ev
  | .lst a, .lst b => if a.length + b.length ≤ 16777216 then .ok (.fr, .lst (a ++ b)) else .bad
  | _, _ => .bad
theorem no_dom {P : Addr → Prop} {H : Hp} (h : ∀ b, P b → H b ≠ none) {p : Addr} (n : H p = none) : ¬ P p := fun z => h p z n
theorem opg_addL {K : PySem.W.Frag} : OpG K rCat gAddL := by
  intro hid own H Wx x y dx dy Q hb rx ry q
  unfold gAddL at q
  split at q
  · rename_i da db
    split at q
    · rename_i h
      obtain ⟨p1, vs, e1, e2, e3⟩ := rx
      obtain ⟨p2, ws, f1, f2, f3⟩ := ry
      refine ⟨p1, p2, vs, ws, e1, f1, (hd_some.mp e2).2, (hd_some.mp f2).2, by rw [e3.len, f3.len, sizeLine_eq]; exact h, fun p np => q.newL np (no_dom hb np) (e3.app f3)⟩
    · exact q.elim
  · exact q.elim
def isI : D → Bool
  | .int _ => true
  | _ => false
def isS : D → Bool
  | .str _ => true
  | _ => false
def gAdd : D → D → R Ev := fun x y => if isI x = true then gI0 (fun i j => i + j) x y else if isS x = true then gAddS x y else gAddL x y
theorem de_add (ha : DE X W a fa) (hb : DE X W b fb) : DE X W (.BinOp a .Add b pos) (op2 gAdd fa fb) :=
  de_op (op_add.or (op_add_str.or op_cat)) (OpG.or (fun x _ => isI x) opg_I0 (OpG.or (fun x _ => isS x) opg_addS opg_addL)) ha hb
@[simp] theorem gAdd_int (i j : Int) : gAdd (.int i) (.int j) = .ok (.cl, .int (i + j)) := rfl
theorem gAdd_str (a b : List Nat) : gAdd (.str a) (.str b) = if a.length + b.length ≤ 16777216 then .ok (.cl, .str (a ++ b)) else .bad := rfl
theorem gAdd_lst (a b : List D) : gAdd (.lst a) (.lst b) = if a.length + b.length ≤ 16777216 then .ok (.fr, .lst (a ++ b)) else .bad := rfl

/-! #### comparisons of whole numbers and texts -/
def gC (f : Int → Int → Bool) (g : List Nat → List Nat → Bool) : D → D → R Ev
  | .int i, .int j => .ok (.cl, .bl (f i j))
  | .str a, .str b => .ok (.cl, .bl (g a b))
  | _, _ => .bad
theorem opg_C {K : PySem.W.Frag} {f : Int → Int → Bool} {g : List Nat → List Nat → Bool} : OpG K (fun x y H Q => (rI0 fun i j => .bl (f i j)) x y H Q ∨ (∃ i j, x = .str i ∧ y = .str j ∧ Q (.bl (g i.cps.toList j.cps.toList)) H)) (gC f g) := by
  intro hid own H Wx x y dx dy Q hb rx ry q
  unfold gC at q
  split at q
  · exact .inl ⟨_, _, rx, ry, q.now rfl⟩
  · refine .inr ⟨_, _, rx, ry, ?_⟩
    rw [S_cps, S_cps]
    exact q.now rfl
  · exact q.elim
def gLt := gC (fun i j => decide (i < j)) fun a b => decide (a < b)
def gLe := gC (fun i j => decide (i ≤ j)) fun a b => !decide (b < a)
def gGt := gC (fun i j => decide (j < i)) fun a b => decide (b < a)
def gGe := gC (fun i j => decide (j ≤ i)) fun a b => !decide (a < b)
end
section
variable {X : Cx} {W : WX} {a b : Expr} {fa fb : EF} {pos : Pos}
theorem op_ltA : OpR X (compareOp .Lt) (fun x y H Q => (rI0 fun i j => .bl (decide (i < j))) x y H Q ∨ (∃ i j, x = .str i ∧ y = .str j ∧ Q (.bl (decide (i.cps.toList < j.cps.toList))) H)) := op_lt.or op_lt_str
theorem op_leA : OpR X (compareOp .LtE) (fun x y H Q => (rI0 fun i j => .bl (decide (i ≤ j))) x y H Q ∨ (∃ i j, x = .str i ∧ y = .str j ∧ Q (.bl (!decide (j.cps.toList < i.cps.toList))) H)) := op_le.or op_le_str
theorem op_gtA : OpR X (compareOp .Gt) (fun x y H Q => (rI0 fun i j => .bl (decide (j < i))) x y H Q ∨ (∃ i j, x = .str i ∧ y = .str j ∧ Q (.bl (decide (j.cps.toList < i.cps.toList))) H)) := op_gt.or op_gt_str
theorem op_geA : OpR X (compareOp .GtE) (fun x y H Q => (rI0 fun i j => .bl (decide (j ≤ i))) x y H Q ∨ (∃ i j, x = .str i ∧ y = .str j ∧ Q (.bl (!decide (i.cps.toList < j.cps.toList))) H)) := op_ge.or op_ge_str
theorem de_lt (ha : DE X W a fa) (hb : DE X W b fb) : DE X W (.Compare a [.Lt] [b] pos) (op2 gLt fa fb) := de_cmp op_ltA opg_C ha hb (nobehind _ (by decide) (by decide))
theorem de_le (ha : DE X W a fa) (hb : DE X W b fb) : DE X W (.Compare a [.LtE] [b] pos) (op2 gLe fa fb) := de_cmp op_leA opg_C ha hb (nobehind _ (by decide) (by decide))
theorem de_gt (ha : DE X W a fa) (hb : DE X W b fb) : DE X W (.Compare a [.Gt] [b] pos) (op2 gGt fa fb) := de_cmp op_gtA opg_C ha hb (nobehind _ (by decide) (by decide))
theorem de_ge (ha : DE X W a fa) (hb : DE X W b fb) : DE X W (.Compare a [.GtE] [b] pos) (op2 gGe fa fb) := de_cmp op_geA opg_C ha hb (nobehind _ (by decide) (by decide))
theorem dt_lt (ha : DE X W a fa) (hb : DE X W b fb) : DT X W (.Compare a [.Lt] [b] pos) (t2 gLt fa fb) := dt_cmp op_ltA opg_C ha hb (nobehind _ (by decide) (by decide))
theorem dt_le (ha : DE X W a fa) (hb : DE X W b fb) : DT X W (.Compare a [.LtE] [b] pos) (t2 gLe fa fb) := dt_cmp op_leA opg_C ha hb (nobehind _ (by decide) (by decide))
theorem dt_gt (ha : DE X W a fa) (hb : DE X W b fb) : DT X W (.Compare a [.Gt] [b] pos) (t2 gGt fa fb) := dt_cmp op_gtA opg_C ha hb (nobehind _ (by decide) (by decide))
theorem dt_ge (ha : DE X W a fa) (hb : DE X W b fb) : DT X W (.Compare a [.GtE] [b] pos) (t2 gGe fa fb) := dt_cmp op_geA opg_C ha hb (nobehind _ (by decide) (by decide))
/-- a <= b <= c -/
def chn (g g' : D → D → R Ev) (fa fb fc : EF) : EF := fun ρ => (fa ρ).bind fun x => (fb ρ).bind fun y => (g x.2 y.2).bind fun z => match z.2 with
  | .bl true => (fc ρ).bind fun w => g' y.2 w.2
  | .bl false => .ok (.cl, .bl false)
  | _ => .bad
theorem de_chain {op op' : CmpOp} {r r' : R2} {g g' : D → D → R Ev} {c : Expr} {fc : EF} (ho : OpR X (compareOp op) r) (hg : OpG X.K r g) (ho' : OpR X (compareOp op') r') (hg' : OpG X.K r' g')
    (ha : DE X W a fa) (hb : DE X W b fb) (hc : DE X W c fc) (hm : lastMarks [op, op'] [b, c] = false := by with_unfolding_all rfl) : DE X W (.Compare a [op, op'] [b, c] pos) (chn g g' fa fb fc) := by
  refine imp_pe (pe_chain ho ho' ha hb hc hm) fun σ H Q ⟨hid, own, ρ, hS, h⟩ => ?_
  refine ⟨hid, own, ρ, hS, Post.part h fun e1 H1 x s1 r1 h1 => ⟨hid, own, ρ, hS.mono s1, Post.part h1 fun e2 H2 y s2 r2 h2 => ?_⟩⟩
  have S2 := (hS.mono s1).mono s2
  refine hg (Wx := Wc X.mg W σ) S2.dom (r1.rt.mono s2) r2.rt (Post.part h2 fun e3 H3 z s3 r3 h3 => ?_)
  obtain ⟨k3, d3⟩ := e3
  cases d3 with
  | bl t =>
    refine ⟨t, bl_of r3, ?_⟩
    cases t with
    | true => exact iteT ⟨hid, own, ρ, S2.mono s3, Post.part h3 fun e4 H4 w s4 r4 h4 => hg' ((S2.mono s3).mono s4).dom ((r2.rt.mono s3).mono s4) r4.rt h4⟩
    | false => exact iteF (h3.now rfl)
  | _ => exact h3.elim
theorem de_lele {c : Expr} {fc : EF} (ha : DE X W a fa) (hb : DE X W b fb) (hc : DE X W c fc) (hm : lastMarks [.LtE, .LtE] [b, c] = false := by with_unfolding_all rfl) : DE X W (.Compare a [.LtE, .LtE] [b, c] pos) (chn gLe gLe fa fb fc) :=
  de_chain op_leA opg_C op_leA opg_C ha hb hc hm
end

/-! ### == of data -/
mutual
def toP : D → Option PyData
  | .non => some .none
  | .bl b => some (.bool b)
  | .int i => some (.int i)
  | .str x => some (.str (S x))
  | .tup xs => (toPs xs).map .tuple
  | .lst xs => (toPs xs).map .list
  | .rol _ => none
  | .dct _ _ => none
  | .obj _ _ _ => none
def toPs : List D → Option (List PyData)
  | [] => some []
  | x :: xs => (toP x).bind fun p => (toPs xs).map fun r => p :: r
end
/-- the equality of data -/
def peq (x y : D) : Bool := match toP x, toP y with
  | some p, some q => PyData.eqv p q
  | _, _ => false
def shp (x : D) : Bool := match toP x with
  | some p => SeqAt.shaped p
  | none => false
mutual
theorem Rp.dp {K : PySem.W.Frag} {H : Hp} : ∀ (d : D) (v : V) (p : PyData), Rp K H d v → toP d = some p → Dp K H v p
  | .non, _, _, h, e => by cases e; cases (show _ = _ from h); exact .non
  | .bl b, _, _, h, e => by cases e; cases (show _ = _ from h); exact .bl b
  | .int i, _, _, h, e => by cases e; cases (show _ = _ from h); exact .int i
  | .str x, _, _, h, e => by cases e; cases (show _ = _ from h); exact .str _
  | .tup xs, _, p, ⟨a, vs, h1, h2, h3⟩, e => by
    unfold toP at e
    cases q : toPs xs with
    | none => rw [q] at e; cases e
    | some ps =>
      rw [q] at e; cases e; subst h1
      exact .tup h2 (RpL.dp xs vs ps h3 q)
  | .lst xs, _, p, ⟨a, vs, h1, h2, h3⟩, e => by
    unfold toP at e
    cases q : toPs xs with
    | none => rw [q] at e; cases e
    | some ps =>
      rw [q] at e; cases e; subst h1
      exact .lst (SqL.of h2) (RpL.dp xs vs ps h3 q)
  | .rol _, _, _, _, e => by cases e
  | .dct _ _, _, _, _, e => by cases e
  | .obj _ _ _, _, _, _, e => by cases e
theorem RpL.dp {K : PySem.W.Frag} {H : Hp} : ∀ (ds : List D) (vs : List V) (ps : List PyData), RpL K H ds vs → toPs ds = some ps → DpAll K H vs ps
  | [], _, _, h, e => by cases e; cases (show _ = _ from h); exact .nil
  | d :: ds, _, ps, ⟨v, r, h1, h2, h3⟩, e => by
    unfold toPs at e
    cases q : toP d with
    | none => rw [q] at e; cases e
    | some p =>
      cases q2 : toPs ds with
      | none => rw [q, q2] at e; cases e
      | some qs =>
        rw [q, q2] at e; cases e; subst h1
        exact .cons (Rp.dp d v p h2 q) (RpL.dp ds r qs h3 q2)
end
mutual
theorem Dp.mono {K : PySem.W.Frag} {H H' : Hp} (s : Same H H') : ∀ {v : V} {p : PyData}, Dp K H v p → Dp K H' v p
  | _, _, .non => .non
  | _, _, .bl b => .bl b
  | _, _, .int b => .int b
  | _, _, .str b => .str b
  | _, _, .lst a b => .lst (s.seq a) (DpAll.mono s b)
  | _, _, .tup a b => .tup (same_seqT s a) (DpAll.mono s b)
theorem DpAll.mono {K : PySem.W.Frag} {H H' : Hp} (s : Same H H') : ∀ {v : List V} {p : List PyData}, DpAll K H v p → DpAll K H' v p
  | _, _, .nil => .nil
  | _, _, .cons a b => .cons (Dp.mono s a) (DpAll.mono s b)
end
theorem RT.dp {K : PySem.W.Frag} {hid : Addr → Prop} {own : Own} {H : Hp} {d : D} {v : V} {p : PyData} (h : RT K hid own H d v) (e : toP d = some p) : Dp K H v p := Dp.mono hd_le (Rp.dp d v p h.rp e)
def scl : D → D → Bool
  | .non, .non => true | .non, .int _ => true | .int _, .non => true | .non, .bl _ => true | .bl _, .non => true | .non, .str _ => true | .str _, .non => true
  | .int _, .int _ => true | .bl _, .bl _ => true | .str _, .str _ => true
  | .int _, .str _ => true | .str _, .int _ => true | .bl _, .str _ => true | .str _, .bl _ => true
  | _, _ => false
def seq' : D → D → Bool
  | .non, .non => true
  | .int a, .int b => a == b
  | .bl a, .bl b => a == b
  | .str a, .str b => a == b
  | _, _ => false
def gEqS (neg : Bool) : D → D → R Ev := fun x y => if scl x y = true then .ok (.cl, .bl (if neg then !(seq' x y) else seq' x y)) else .bad
theorem S_beq (a b : List Nat) : decide (V.str (S a) = V.str (S b)) = (a == b) := by
  rw [Bool.eq_iff_iff, decide_eq_true_eq, beq_iff_eq]
  exact ⟨fun h => S_inj (V.str.inj h), fun h => by rw [h]⟩
theorem seq_dec : ∀ {dx dy : D} {x y : V} {K : PySem.W.Frag} {hid : Addr → Prop} {own : Own} {H : Hp}, scl dx dy = true → RT K hid own H dx x → RT K hid own H dy y → scal x y = true ∧ decide (x = y) = seq' dx dy := by
  intro dx dy x y K hid own H h rx ry
  cases dx <;> cases dy <;> first
    | exact absurd (show false = true from h) Bool.false_ne_true
    | (cases (show _ = _ from rx)
       cases (show _ = _ from ry)
       refine ⟨rfl, ?_⟩
       first
       | exact dec_int
       | exact dec_bl
       | exact S_beq _ _
       | exact decide_eq_true rfl
       | exact decide_eq_false (fun z => nomatch z))
theorem opg_eqS {K : PySem.W.Frag} : OpG K rEq (gEqS false) := by
  intro hid own H Wx x y dx dy Q hb rx ry q
  unfold gEqS at q
  split at q
  · rename_i h
    obtain ⟨h1, h2⟩ := seq_dec h rx ry
    exact ⟨h1, by rw [h2]; exact q.now rfl⟩
  · exact q.elim
theorem opg_neS {K : PySem.W.Frag} : OpG K rNe (gEqS true) := by
  intro hid own H Wx x y dx dy Q hb rx ry q
  unfold gEqS at q
  split at q
  · rename_i h
    obtain ⟨h1, h2⟩ := seq_dec h rx ry
    exact ⟨h1, by rw [h2]; exact q.now rfl⟩
  · exact q.elim
def gEqD (neg : Bool) : D → D → R Ev := fun x y => if (shp x && shp y) = true then .ok (.cl, .bl (if neg then !(peq x y) else peq x y)) else .bad
theorem opg_eqD {K : PySem.W.Frag} : OpG K (rEqD K) (gEqD false) := by
  intro hid own H Wx x y dx dy Q hb rx ry q
  unfold gEqD at q
  split at q
  · rename_i h
    rw [Bool.and_eq_true] at h
    obtain ⟨h1, h2⟩ := h
    unfold shp at h1 h2
    cases ex : toP dx with
    | none => rw [ex] at h1; exact absurd h1 Bool.false_ne_true
    | some p =>
      cases ey : toP dy with
      | none => rw [ey] at h2; exact absurd h2 Bool.false_ne_true
      | some p' =>
        rw [ex] at h1
        rw [ey] at h2
        refine ⟨p, p', rx.dp ex, ry.dp ey, h1, h2, q.now ?_⟩
        show _ = V.bl (peq dx dy)
        unfold peq
        rw [ex, ey]
  · exact q.elim
theorem opg_neD {K : PySem.W.Frag} : OpG K (rNeD K) (gEqD true) := by
  intro hid own H Wx x y dx dy Q hb rx ry q
  unfold gEqD at q
  split at q
  · rename_i h
    rw [Bool.and_eq_true] at h
    obtain ⟨h1, h2⟩ := h
    unfold shp at h1 h2
    cases ex : toP dx with
    | none => rw [ex] at h1; exact absurd h1 Bool.false_ne_true
    | some p =>
      cases ey : toP dy with
      | none => rw [ey] at h2; exact absurd h2 Bool.false_ne_true
      | some p' =>
        rw [ex] at h1
        rw [ey] at h2
        refine ⟨p, p', rx.dp ex, ry.dp ey, h1, h2, q.now ?_⟩
        show _ = V.bl (!peq dx dy)
        unfold peq
        rw [ex, ey]
  · exact q.elim
def gEq : D → D → R Ev := fun x y => if scl x y = true then gEqS false x y else gEqD false x y
def gNe : D → D → R Ev := fun x y => if scl x y = true then gEqS true x y else gEqD true x y
section
variable {X : Cx} {W : WX} {a b : Expr} {fa fb : EF} {pos : Pos}
theorem de_eq (hu : X.A.units + 64 < cLine) (ha : DE X W a fa) (hb : DE X W b fb) : DE X W (.Compare a [.Eq] [b] pos) (op2 gEq fa fb) := de_cmp (op_eq.or (op_eqD hu)) (OpG.or scl opg_eqS opg_eqD) ha hb (nobehind _ (by decide) (by decide))
theorem dt_eq (hu : X.A.units + 64 < cLine) (ha : DE X W a fa) (hb : DE X W b fb) : DT X W (.Compare a [.Eq] [b] pos) (t2 gEq fa fb) := dt_cmp (op_eq.or (op_eqD hu)) (OpG.or scl opg_eqS opg_eqD) ha hb (nobehind _ (by decide) (by decide))
theorem de_ne (hu : X.A.units + 64 < cLine) (ha : DE X W a fa) (hb : DE X W b fb) : DE X W (.Compare a [.NotEq] [b] pos) (op2 gNe fa fb) := de_cmp (op_ne.or (op_neD hu)) (OpG.or scl opg_neS opg_neD) ha hb (nobehind _ (by decide) (by decide))
theorem dt_ne (hu : X.A.units + 64 < cLine) (ha : DE X W a fa) (hb : DE X W b fb) : DT X W (.Compare a [.NotEq] [b] pos) (t2 gNe fa fb) := dt_cmp (op_ne.or (op_neD hu)) (OpG.or scl opg_neS opg_neD) ha hb (nobehind _ (by decide) (by decide))
end
end PL
set_option Elab.async false
set_option linter.all false
set_option maxRecDepth 100000
set_option maxHeartbeats 4000000
/-! PL3: tests, choices, built-in calls, methods of texts, subscripts, displays, calls of defs, comprehensions. -/
namespace PL
open PySem PySem.Spec L2

/-! ### truth, tests -/
def gTru : D → R Bool
  | .non => .ok false
  | .bl b => .ok b
  | .int i => .ok (i != 0)
  | .str x => if x.length ≤ 16777216 then .ok (!x.isEmpty) else .bad
  | .tup xs => .ok (!xs.isEmpty)
  | .lst xs => .ok (!xs.isEmpty)
  | .rol xs => .ok (!xs.isEmpty)
  | .dct _ _ => .bad
  | .obj _ _ _ => .bad
theorem gTru_cases : ∀ d : D, (∃ k, gTru d = .ok k) ∨ gTru d = .bad
  | .non => .inl ⟨_, rfl⟩
  | .bl _ => .inl ⟨_, rfl⟩
  | .int _ => .inl ⟨_, rfl⟩
  | .tup _ => .inl ⟨_, rfl⟩
  | .lst _ => .inl ⟨_, rfl⟩
  | .rol _ => .inl ⟨_, rfl⟩
  | .dct _ _ => .inr rfl
  | .obj _ _ _ => .inr rfl
  | .str x => by
    by_cases h : x.length ≤ 16777216
    · exact .inl ⟨!x.isEmpty, if_pos h⟩
    · exact .inr (if_neg h)
def tVal (fa : EF) : TF := fun ρ => (fa ρ).bind fun e => gTru e.2
def tNotF (fa : TF) : TF := fun ρ => (fa ρ).bind fun b => .ok (!b)
def tAndF (fa fb : TF) : TF := fun ρ => (fa ρ).bind fun b => if b = true then fb ρ else .ok false
def tOrF (fa fb : TF) : TF := fun ρ => (fa ρ).bind fun b => if b = true then .ok true else fb ρ
theorem isEmpty_len {α β : Type} {xs : List α} {ys : List β} (h : xs.length = ys.length) : xs.isEmpty = ys.isEmpty := by
  cases xs <;> cases ys <;> first | rfl | cases h
theorem tru_of {K : PySem.W.Frag} {hid : Addr → Prop} {own : Own} {H : Hp} : ∀ {d : D} {v : V} {k : Bool}, RT K hid own H d v → gTru d = .ok k → TruV K v H k
  | .non, _, _, h, e => by cases e; cases (show _ = _ from h); exact rfl
  | .bl b, _, _, h, e => by cases e; cases (show _ = _ from h); exact rfl
  | .int b, _, _, h, e => by cases e; cases (show _ = _ from h); exact rfl
  | .str x, _, k, h, e => by
    have e : (if x.length ≤ 16777216 then R.ok (!x.isEmpty) else R.bad) = .ok k := e
    split at e
    · rename_i hz
      cases e
      cases (show _ = _ from h)
      refine ⟨by rw [S_len, sizeLine_eq]; exact hz, ?_⟩
      rw [S_len]
      cases x with
      | nil => rfl
      | cons c r =>
        have : ((List.length (c :: r) : Nat) : Int) ≠ 0 := by rw [List.length_cons]; omega
        show true = _
        rw [eq_comm, bne_iff_ne]
        exact this
    · cases e
  | .tup xs, _, _, ⟨a, vs, h1, h2, h3⟩, e => by
    cases e; subst h1
    exact .inr (.inl ⟨vs, same_seqT hd_le h2, by rw [isEmpty_len h3.len]⟩)
  | .lst xs, _, _, ⟨a, vs, h1, h2, h3⟩, e => by
    cases e; subst h1
    exact .inl ⟨vs, SqL.of (hd_le _ _ h2), by rw [isEmpty_len h3.len]⟩
  | .rol xs, _, _, ⟨a, vs, h1, h2, h3⟩, e => by
    cases e; subst h1
    exact .inl ⟨vs, hd_le.seq h2, by rw [isEmpty_len h3.len]⟩
  | .dct _ _, _, _, _, e => nomatch e
  | .obj _ _ _, _, _, _, e => nomatch e
section
variable {X : Cx} {W : WX} {a b c : Expr} {fa fb fc : EF} {ta tb tc : TF} {rest : List Expr} {pos : Pos}
theorem dt_truth (ha : DE X W a fa) (he : ∀ whole, isTrue a X.env whole = (do let v ← whole; standAt a.pos; holding [v] (truthy v)) := by intro _; rfl) : DT X W a (tVal fa) := by
  refine imp_pt (pt_truth ha he) fun σ H Q ⟨hid, own, ρ, hS, h⟩ => ?_
  refine ⟨hid, own, ρ, hS, PostT.partE h fun e H1 v s1 r1 h1 => ?_⟩
  rcases gTru_cases e.2 with ⟨k, q⟩ | q
  · rw [q] at h1
    exact ⟨k, tru_of r1.rt q, h1 H1 (Same.refl _)⟩
  · rw [q] at h1; exact h1.elim
theorem dt_not (ha : DT X W a ta) : DT X W (.UnaryOp .Not a pos) (tNotF ta) :=
  imp_pt (pt_not ha) fun σ H Q ⟨hid, own, ρ, hS, h⟩ => ⟨hid, own, ρ, hS, PostT.part h fun e H1 s1 h1 => h1 H1 (Same.refl _)⟩
theorem dw_pt (h : DW X W a ta) : DT X W a ta := h.pt
theorem dw_and1 (ha : DT X W a ta) : DW X W (.BoolOp .And [a] pos) ta := pw_and1 ha
theorem dw_or1 (ha : DT X W a ta) : DW X W (.BoolOp .Or [a] pos) ta := pw_or1 ha
theorem dw_and (ha : DT X W a ta) (hb : DW X W (.BoolOp .And (b :: rest) pos) tb) : DW X W (.BoolOp .And (a :: b :: rest) pos) (tAndF ta tb) :=
  imp_pw (pw_and ha hb) fun σ H Q ⟨hid, own, ρ, hS, h⟩ => ⟨hid, own, ρ, hS, PostT.part h fun e H1 s1 h1 => by
    cases e with
    | true => rw [if_pos rfl] at h1 ⊢; exact ⟨hid, own, ρ, hS.mono s1, h1⟩
    | false => rw [if_neg Bool.false_ne_true] at h1 ⊢; exact h1 H1 (Same.refl _)⟩
theorem dw_or (ha : DT X W a ta) (hb : DW X W (.BoolOp .Or (b :: rest) pos) tb) : DW X W (.BoolOp .Or (a :: b :: rest) pos) (tOrF ta tb) :=
  imp_pw (pw_or ha hb) fun σ H Q ⟨hid, own, ρ, hS, h⟩ => ⟨hid, own, ρ, hS, PostT.part h fun e H1 s1 h1 => by
    cases e with
    | true => rw [if_pos rfl] at h1 ⊢; exact h1 H1 (Same.refl _)
    | false => rw [if_neg Bool.false_ne_true] at h1 ⊢; exact ⟨hid, own, ρ, hS.mono s1, h1⟩⟩
/-- and, or, not as values: the first ones by truth -/
def eAnd (fa fb : EF) : EF := fun ρ => (fa ρ).bind fun x => (gTru x.2).bind fun k => if k = true then fb ρ else .ok x
def eOr (fa fb : EF) : EF := fun ρ => (fa ρ).bind fun x => (gTru x.2).bind fun k => if k = true then .ok x else fb ρ
def eNot (fa : EF) : EF := fun ρ => (fa ρ).bind fun x => (gTru x.2).bind fun k => .ok (.cl, .bl (!k))
theorem keepV {K : PySem.W.Frag} {hid : Addr → Prop} {own : Own} {H H1 : Hp} {Wx : Str → Hp → Prop} {Q : VK} {e : Ev} {v : V} (s : Same H H1) (r : RV K hid own H H1 e.1 e.2 v) (h : Post K hid own H Wx (.ok e) Q) : Q v H1 := h H1 v s r
theorem de_and (ha : DE X W a fa) (hb : DE X W (.BoolOp .And (b :: rest) pos) fb) : DE X W (.BoolOp .And (a :: b :: rest) pos) (eAnd fa fb) := by
  refine imp_pe (pe_andT ha hb) fun σ H Q ⟨hid, own, ρ, hS, h⟩ => ⟨hid, own, ρ, hS, ?_⟩
  have h : Post X.K hid own H (Wc X.mg W σ) ((fa ρ).bind fun x => (gTru x.2).bind fun k => if k = true then fb ρ else .ok x) Q := h
  cases e : fa ρ with
  | ok x =>
    rw [e] at h
    have h : Post X.K hid own H (Wc X.mg W σ) ((gTru x.2).bind fun k => if k = true then fb ρ else .ok x) Q := h
    intro H1 v s1 r1
    rcases gTru_cases x.2 with ⟨k, q⟩ | q
    · rw [q] at h
      have h : Post X.K hid own H (Wc X.mg W σ) (if k = true then fb ρ else .ok x) Q := h
      refine ⟨k, tru_of r1.rt q, ?_⟩
      cases k with
      | true => exact ⟨hid, own, ρ, hS.mono s1, Post.mono s1 h⟩
      | false => exact h H1 v s1 r1
    · rw [q] at h; exact h.elim
  | exc c => rw [e] at h; exact h
  | bad => rw [e] at h; exact h
theorem de_or (ha : DE X W a fa) (hb : DE X W (.BoolOp .Or (b :: rest) pos) fb) : DE X W (.BoolOp .Or (a :: b :: rest) pos) (eOr fa fb) := by
  refine imp_pe (pe_orT ha hb) fun σ H Q ⟨hid, own, ρ, hS, h⟩ => ⟨hid, own, ρ, hS, ?_⟩
  have h : Post X.K hid own H (Wc X.mg W σ) ((fa ρ).bind fun x => (gTru x.2).bind fun k => if k = true then .ok x else fb ρ) Q := h
  cases e : fa ρ with
  | ok x =>
    rw [e] at h
    have h : Post X.K hid own H (Wc X.mg W σ) ((gTru x.2).bind fun k => if k = true then .ok x else fb ρ) Q := h
    intro H1 v s1 r1
    rcases gTru_cases x.2 with ⟨k, q⟩ | q
    · rw [q] at h
      have h : Post X.K hid own H (Wc X.mg W σ) (if k = true then .ok x else fb ρ) Q := h
      refine ⟨k, tru_of r1.rt q, ?_⟩
      cases k with
      | true => exact h H1 v s1 r1
      | false => exact ⟨hid, own, ρ, hS.mono s1, Post.mono s1 h⟩
    · rw [q] at h; exact h.elim
  | exc c => rw [e] at h; exact h
  | bad => rw [e] at h; exact h
theorem de_one {op} (h : DE X W a fa) : DE X W (.BoolOp op [a] pos) fa := pe_one h
theorem de_not (ha : DE X W a fa) : DE X W (.UnaryOp .Not a pos) (eNot fa) := by
  refine imp_pe (pe_notT ha) fun σ H Q ⟨hid, own, ρ, hS, h⟩ => ⟨hid, own, ρ, hS, Post.part h fun x H1 v s1 r1 h1 => ?_⟩
  rcases gTru_cases x.2 with ⟨k, q⟩ | q
  · rw [q] at h1
    exact ⟨k, tru_of r1.rt q, Post.now (K := X.K) h1 rfl⟩
  · rw [q] at h1; exact h1.elim
def eNeg (fa : EF) : EF := op1 (fun d => match d with | .int i => .ok (.cl, .int (-i)) | _ => .bad) fa
theorem de_neg (ha : DE X W a fa) : DE X W (.UnaryOp .USub a pos) (eNeg fa) := by
  refine imp_pe (pe_un un_neg ha) fun σ H Q ⟨hid, own, ρ, hS, h⟩ => ⟨hid, own, ρ, hS, Post.part h fun x H1 v s1 r1 h1 => ?_⟩
  obtain ⟨k, d⟩ := x
  cases d with
  | int i => exact ⟨i, r1.rt, Post.now (K := X.K) h1 rfl⟩
  | _ => exact h1.elim
def eIf (tc : TF) (fa fb : EF) : EF := fun ρ => (tc ρ).bind fun k => if k = true then fa ρ else fb ρ
theorem de_if (hc : DT X W c tc) (ha : DE X W a fa) (hb : DE X W b fb) : DE X W (.IfExp c a b pos) (eIf tc fa fb) :=
  imp_pe (pe_ifExp hc ha hb) fun σ H Q ⟨hid, own, ρ, hS, h⟩ => ⟨hid, own, ρ, hS, Post.partT h fun e H1 s1 h1 => by
    cases e with
    | true => rw [if_pos rfl] at h1 ⊢; exact ⟨hid, own, ρ, hS.mono s1, h1⟩
    | false => rw [if_neg Bool.false_ne_true] at h1 ⊢; exact ⟨hid, own, ρ, hS.mono s1, h1⟩⟩
/-- is None -/
def isN : D → Bool
  | .non => true
  | _ => false
def eIsN (neg : Bool) (fa : EF) : EF := op1 (fun d => .ok (.cl, .bl (if neg then !isN d else isN d))) fa
theorem isN_of {K : PySem.W.Frag} {hid : Addr → Prop} {own : Own} {H : Hp} : ∀ {d : D} {v : V}, RT K hid own H d v → decide (v = .non) = isN d := by
  intro d v h
  cases d with
  | non => cases (show _ = _ from h); rfl
  | bl b => cases (show _ = _ from h); rfl
  | int b => cases (show _ = _ from h); rfl
  | str b => cases (show _ = _ from h); rfl
  | tup b => obtain ⟨a, vs, h1, _⟩ := h; subst h1; rfl
  | lst b => obtain ⟨a, vs, h1, _⟩ := h; subst h1; rfl
  | rol b => obtain ⟨a, vs, h1, _⟩ := h; subst h1; rfl
  | dct _ b => obtain ⟨a, vs, h1, _⟩ := h; subst h1; rfl
  | obj _ _ b => obtain ⟨a, vs, h1, _⟩ := h; subst h1; rfl
theorem de_isN {j pos'} (ha : DE X W a fa) : DE X W (.Compare a [.Is] [.Constant .none j pos'] pos) (eIsN false fa) :=
  imp_pe (pe_cmp (pc_isN ha)) fun σ H Q ⟨hid, own, ρ, hS, h⟩ => ⟨hid, own, ρ, hS, Post.part h fun x H1 v s1 r1 h1 => by rw [isN_of r1.rt]; exact Post.now (K := X.K) h1 rfl⟩
theorem de_notN {j pos'} (ha : DE X W a fa) : DE X W (.Compare a [.IsNot] [.Constant .none j pos'] pos) (eIsN true fa) :=
  imp_pe (pe_cmp (pc_notN ha)) fun σ H Q ⟨hid, own, ρ, hS, h⟩ => ⟨hid, own, ρ, hS, Post.part h fun x H1 v s1 r1 h1 => by rw [isN_of r1.rt]; exact Post.now (K := X.K) h1 rfl⟩
def tE' (fa : EF) : TF := fun ρ => (fa ρ).bind asB
theorem dt_isN {j pos'} (ha : DE X W a fa) : DT X W (.Compare a [.Is] [.Constant .none j pos'] pos) (tE' (eIsN false fa)) :=
  imp_pt (pt_cmp (pc_isN ha)) fun σ H Q h => by
    obtain ⟨hid, own, ρ, hS, h⟩ := test_of σ H Q h
    exact ⟨hid, own, ρ, hS, Post.part h fun x H1 v s1 r1 h1 => by rw [isN_of r1.rt]; exact Post.now (K := X.K) h1 rfl⟩
theorem dt_notN {j pos'} (ha : DE X W a fa) : DT X W (.Compare a [.IsNot] [.Constant .none j pos'] pos) (tE' (eIsN true fa)) :=
  imp_pt (pt_cmp (pc_notN ha)) fun σ H Q h => by
    obtain ⟨hid, own, ρ, hS, h⟩ := test_of σ H Q h
    exact ⟨hid, own, ρ, hS, Post.part h fun x H1 v s1 r1 h1 => by rw [isN_of r1.rt]; exact Post.now (K := X.K) h1 rfl⟩
end

/-! ### calls of built-in functions -/
def CallG (K : PySem.W.Frag) (r : List V → Hp → VK → Prop) (g : D → R Ev) : Prop := ∀ {hid own H Wx x dx Q}, (∀ b, ob hid own b → H b ≠ none) → RT K hid own H dx x → Post K hid own H Wx (g dx) Q → r [x] H Q
def CallG2 (K : PySem.W.Frag) (r : List V → Hp → VK → Prop) (g : D → D → R Ev) : Prop := ∀ {hid own H Wx x y dx dy Q}, (∀ b, ob hid own b → H b ≠ none) → RT K hid own H dx x → RT K hid own H dy y → Post K hid own H Wx (g dx dy) Q → r [x, y] H Q
section
variable {X : Cx} {W : WX} {e e' : Expr} {fa fb : EF} {r : List V → Hp → VK → Prop} {g : D → R Ev} {g2 : D → D → R Ev} {x : Str} {p pos : Pos} {id T : String}
theorem one_arg (hg : CallG X.K r g) : ∀ σ H Q, tE X.K X.mg W (op1 g fa) σ H Q → tCB r (tCons (tE X.K X.mg W fa) tNil) σ H Q := fun σ H Q ⟨hid, own, ρ, hS, h⟩ =>
  ⟨hid, own, ρ, hS, Post.part h fun e H1 v s1 r1 h1 => hg (hS.mono s1).dom r1.rt h1⟩
theorem two_arg (hg : CallG2 X.K r g2) : ∀ σ H Q, tE X.K X.mg W (op2 g2 fa fb) σ H Q → tCB r (tCons (tE X.K X.mg W fa) (tCons (tE X.K X.mg W fb) tNil)) σ H Q := fun σ H Q ⟨hid, own, ρ, hS, h⟩ =>
  ⟨hid, own, ρ, hS, Post.part h fun e H1 v s1 r1 h1 => ⟨hid, own, ρ, hS.mono s1, Post.part h1 fun e2 H2 v2 s2 r2 h2 => hg ((hS.mono s1).mono s2).dom (r1.rt.mono s2) r2.rt h2⟩⟩
theorem de_callB (hc : CallR X (.builtin id) r) (hgg : CallG X.K r g) (hg : Gl X x) (hm : X.mg x = none) (hv : bootBuiltins x = some (.builtin id)) (ha : DE X W e fa) (hs : starEach [e] X.env = (false, eval e X.env) :: starEach [] X.env := by rfl)
    (hn : x ≠ "__name__" := by decide) (hdb : (x == ("__debug__" : Str)) = false := by decide) : DE X W (.Call (.Name x p) [e] [] pos) (op1 g fa) := imp_pe (pe_callB hc hg hm hv (pa_cons ha pa_nil hs) hn hdb hs rfl) (one_arg hgg)
theorem de_callT (hc : CallR X (.type T) r) (hgg : CallG X.K r g) (hg : Gl X x) (hm : X.mg x = none) (hv : bootBuiltins x = some (.type T)) (ha : DE X W e fa) (hs : starEach [e] X.env = (false, eval e X.env) :: starEach [] X.env := by rfl)
    (hn : x ≠ "__name__" := by decide) (hdb : (x == ("__debug__" : Str)) = false := by decide) : DE X W (.Call (.Name x p) [e] [] pos) (op1 g fa) := imp_pe (pe_callTy hc hg hm hv (pa_cons ha pa_nil hs) hn hdb hs rfl) (one_arg hgg)
theorem de_callB2 (hc : CallR X (.builtin id) r) (hgg : CallG2 X.K r g2) (hg : Gl X x) (hm : X.mg x = none) (hv : bootBuiltins x = some (.builtin id)) (ha : DE X W e fa) (hb : DE X W e' fb)
    (hs : starEach [e, e'] X.env = (false, eval e X.env) :: starEach [e'] X.env := by rfl) (hs' : starEach [e'] X.env = (false, eval e' X.env) :: starEach [] X.env := by rfl) (hpl : (backTo pos (starEach [e'] X.env)).any (·.1) = false := by rfl)
    (hn : x ≠ "__name__" := by decide) (hdb : (x == ("__debug__" : Str)) = false := by decide) : DE X W (.Call (.Name x p) [e, e'] [] pos) (op2 g2 fa fb) := imp_pe (pe_callB hc hg hm hv (pa_cons ha (pa_cons hb pa_nil hs') hs) hn hdb hs hpl) (two_arg hgg)
end
/-- len -/
def gLen : D → R Ev
  | .str x => if x.length ≤ 16777216 then .ok (.cl, .int x.length) else .bad
  | .tup xs => .ok (.cl, .int xs.length)
  | .lst xs => .ok (.cl, .int xs.length)
  | .rol xs => .ok (.cl, .int xs.length)
  | _ => .bad
theorem cg_len {K : PySem.W.Frag} : CallG K (fun xs H Q => ∃ x n, xs = [x] ∧ LenV K x H n ∧ Q (.int n) H) gLen := by
  intro hid own H Wx x dx Q hb rx q
  cases dx with
  | str z =>
    have q : Post K hid own H Wx (if z.length ≤ 16777216 then .ok (.cl, .int z.length) else .bad) Q := q
    split at q
    · rename_i hz
      exact ⟨x, z.length, rfl, by rw [show x = _ from rx]; exact ⟨by rw [S_len, sizeLine_eq]; exact hz, (S_len z).symm⟩, q.now rfl⟩
    · exact q.elim
  | tup xs =>
    obtain ⟨a, vs, h1, h2, h3⟩ := rx
    subst h1
    exact ⟨_, xs.length, rfl, .inr ⟨vs, same_seqT hd_le h2, h3.len.symm⟩, q.now rfl⟩
  | lst xs =>
    obtain ⟨a, vs, h1, h2, h3⟩ := rx
    subst h1
    exact ⟨_, xs.length, rfl, .inl ⟨vs, SqL.of (hd_le _ _ h2), h3.len.symm⟩, q.now rfl⟩
  | rol xs =>
    obtain ⟨a, vs, h1, h2, h3⟩ := rx
    subst h1
    exact ⟨_, xs.length, rfl, .inl ⟨vs, hd_le.seq h2, h3.len.symm⟩, q.now rfl⟩
  | _ => exact q.elim
def gInt : D → R Ev
  | .int i => .ok (.cl, .int i)
  | .bl k => .ok (.cl, .int (if k then 1 else 0))
  | _ => .bad
theorem cg_int {K : PySem.W.Frag} : CallG K (fun xs H Q => (∃ i, xs = [.int i] ∧ Q (.int i) H) ∨ ∃ k, xs = [.bl k] ∧ Q (.int (if k then 1 else 0)) H) gInt := by
  intro hid own H Wx x dx Q hb rx q
  cases dx with
  | int i => exact .inl ⟨i, by rw [show x = _ from rx], q.now rfl⟩
  | bl k => exact .inr ⟨k, by rw [show x = _ from rx], q.now rfl⟩
  | _ => exact q.elim
def gStr : D → R Ev
  | .int i => if 0 ≤ i ∧ i < 2 ^ 64 then .ok (.cl, .str (TL.numL i.toNat)) else .bad
  | _ => .bad
theorem log_small {n : Nat} (h : n < 2 ^ 64) : n.log2 < 1920 := by
  by_cases h0 : n = 0
  · rw [h0]; decide
  · have := (Nat.log2_lt h0).mpr h
    omega
theorem num_text {i : Int} (h : 0 ≤ i) : (toString i : Str) = S (TL.numL i.toNat) := by
  obtain ⟨n, rfl⟩ := Int.eq_ofNat_of_zero_le h
  exact TL.ext_tl (by
    show TL.tl (Str.ofString (toString ((n : Nat) : Int))) = _
    rw [TL.tl_num]
    exact (S_cps _).symm)
theorem cg_str {K : PySem.W.Frag} : CallG K (fun xs H Q => ∃ i, xs = [.int i] ∧ i.natAbs.log2 < 1920 ∧ Q (.str (toString i)) H) gStr := by
  intro hid own H Wx x dx Q hb rx q
  cases dx with
  | int i =>
    have q : Post K hid own H Wx (if 0 ≤ i ∧ i < 2 ^ 64 then .ok (.cl, .str (TL.numL i.toNat)) else .bad) Q := q
    split at q
    · rename_i h
      refine ⟨i, by rw [show x = _ from rx], log_small (by omega), ?_⟩
      rw [num_text h.1]
      exact q.now rfl
    · exact q.elim
  | _ => exact q.elim
def gOrd : D → R Ev
  | .str [c] => .ok (.cl, .int c)
  | _ => .bad
theorem cg_ord {K : PySem.W.Frag} : CallG K (fun xs H Q => ∃ x, xs = [.str x] ∧ x.length = 1 ∧ Q (.int (x.cps.getD 0 0 : Nat)) H) gOrd := by
  intro hid own H Wx x dx Q hb rx q
  unfold gOrd at q
  split at q
  · rename_i c
    exact ⟨S [c], by rw [show x = _ from rx], S_len _, q.now rfl⟩
  · exact q.elim
def unI : List D → Option (List Int)
  | [] => some []
  | .int i :: r => (unI r).map fun s => i :: s
  | _ => none
theorem unI_some : ∀ {ds : List D} {ns : List Int}, unI ds = some ns → ds = ns.map D.int
  | [], _, h => by cases h; rfl
  | .int i :: r, ns, h => by
    unfold unI at h
    cases q : unI r with
    | none => rw [q] at h; cases h
    | some s => rw [q] at h; cases h; rw [unI_some q]; rfl
  | .non :: _, _, h => nomatch h
  | .bl _ :: _, _, h => nomatch h
  | .str _ :: _, _, h => nomatch h
  | .tup _ :: _, _, h => nomatch h
  | .lst _ :: _, _, h => nomatch h
  | .rol _ :: _, _, h => nomatch h
  | .dct _ _ :: _, _, h => nomatch h
  | .obj _ _ _ :: _, _, h => nomatch h
@[simp] theorem unI_map (ns : List Int) : unI (ns.map D.int) = some ns := by
  induction ns with
  | nil => rfl
  | cons n r ih => rw [List.map_cons]; unfold unI; rw [ih]; rfl
def unB : List D → Option (List Bool)
  | [] => some []
  | .bl i :: r => (unB r).map fun s => i :: s
  | _ => none
theorem unB_some : ∀ {ds : List D} {ns : List Bool}, unB ds = some ns → ds = ns.map D.bl
  | [], _, h => by cases h; rfl
  | .bl i :: r, ns, h => by
    unfold unB at h
    cases q : unB r with
    | none => rw [q] at h; cases h
    | some s => rw [q] at h; cases h; rw [unB_some q]; rfl
  | .non :: _, _, h => nomatch h
  | .int _ :: _, _, h => nomatch h
  | .str _ :: _, _, h => nomatch h
  | .tup _ :: _, _, h => nomatch h
  | .lst _ :: _, _, h => nomatch h
  | .rol _ :: _, _, h => nomatch h
  | .dct _ _ :: _, _, h => nomatch h
  | .obj _ _ _ :: _, _, h => nomatch h
@[simp] theorem unB_map (ns : List Bool) : unB (ns.map D.bl) = some ns := by
  induction ns with
  | nil => rfl
  | cons n r ih => rw [List.map_cons]; unfold unB; rw [ih]; rfl
def unS : List D → Option (List (List Nat))
  | [] => some []
  | .str i :: r => (unS r).map fun s => i :: s
  | _ => none
theorem unS_some : ∀ {ds : List D} {ns : List (List Nat)}, unS ds = some ns → ds = ns.map D.str
  | [], _, h => by cases h; rfl
  | .str i :: r, ns, h => by
    unfold unS at h
    cases q : unS r with
    | none => rw [q] at h; cases h
    | some s => rw [q] at h; cases h; rw [unS_some q]; rfl
  | .non :: _, _, h => nomatch h
  | .int _ :: _, _, h => nomatch h
  | .bl _ :: _, _, h => nomatch h
  | .tup _ :: _, _, h => nomatch h
  | .lst _ :: _, _, h => nomatch h
  | .rol _ :: _, _, h => nomatch h
  | .dct _ _ :: _, _, h => nomatch h
  | .obj _ _ _ :: _, _, h => nomatch h
@[simp] theorem unS_map (ns : List (List Nat)) : unS (ns.map D.str) = some ns := by
  induction ns with
  | nil => rfl
  | cons n r ih => rw [List.map_cons]; unfold unS; rw [ih]; rfl
def gSum : D → R Ev
  | .lst ds => match unI ds with | some ns => .ok (.cl, .int ns.sum) | none => .bad
  | _ => .bad
theorem cg_sum {K : PySem.W.Frag} : CallG K (rSum K) gSum := by
  intro hid own H Wx x dx Q hb rx q
  cases dx with
  | lst ds =>
    have q : Post K hid own H Wx (match unI ds with | some ns => .ok (.cl, .int ns.sum) | none => .bad) Q := q
    cases e : unI ds with
    | none => rw [e] at q; exact q.elim
    | some ns =>
      rw [e] at q
      obtain ⟨a, vs, h1, h2, h3⟩ := rx
      subst h1
      rw [unI_some e] at h3
      exact ⟨a, ns, rfl, by rw [← h3.ints]; exact SqL.of (hd_le _ _ h2), q.now rfl⟩
  | _ => exact q.elim
def gAllAny (all : Bool) : D → R Ev
  | .lst ds => match unB ds with | some ns => .ok (.cl, .bl (if all then ns.all id else ns.any id)) | none => .bad
  | _ => .bad
theorem cg_all {K : PySem.W.Frag} : CallG K (rAll K) (gAllAny true) := by
  intro hid own H Wx x dx Q hb rx q
  cases dx with
  | lst ds =>
    have q : Post K hid own H Wx (match unB ds with | some ns => .ok (.cl, .bl (ns.all id)) | none => .bad) Q := q
    cases e : unB ds with
    | none => rw [e] at q; exact q.elim
    | some ns =>
      rw [e] at q
      obtain ⟨a, vs, h1, h2, h3⟩ := rx
      subst h1
      rw [unB_some e] at h3
      exact ⟨a, ns, rfl, by rw [← h3.bls]; exact SqL.of (hd_le _ _ h2), q.now rfl⟩
  | _ => exact q.elim
theorem cg_any {K : PySem.W.Frag} : CallG K (rAny K) (gAllAny false) := by
  intro hid own H Wx x dx Q hb rx q
  cases dx with
  | lst ds =>
    have q : Post K hid own H Wx (match unB ds with | some ns => .ok (.cl, .bl (ns.any id)) | none => .bad) Q := q
    cases e : unB ds with
    | none => rw [e] at q; exact q.elim
    | some ns =>
      rw [e] at q
      obtain ⟨a, vs, h1, h2, h3⟩ := rx
      subst h1
      rw [unB_some e] at h3
      exact ⟨a, ns, rfl, by rw [← h3.bls]; exact SqL.of (hd_le _ _ h2), q.now rfl⟩
  | _ => exact q.elim
def gList : D → R Ev
  | .lst ds => .ok (.fr, .lst ds)
  | .tup ds => .ok (.fr, .lst ds)
  | .rol ds => .ok (.fr, .lst ds)
  | _ => .bad
theorem cg_list {K : PySem.W.Frag} : CallG K (fun xs H Q => ∃ p ys, xs = [.ref p] ∧ (SqL K H p ys ∨ SqT K H p ys) ∧ ∀ l, H l = none → Q (.ref l) (upd H l (.lst ys))) gList := by
  intro hid own H Wx x dx Q hb rx q
  cases dx with
  | lst ds =>
    obtain ⟨a, vs, h1, h2, h3⟩ := rx
    subst h1
    exact ⟨a, vs, rfl, .inl (SqL.of (hd_le _ _ h2)), fun l nl => q.newL nl (no_dom hb nl) h3⟩
  | tup ds =>
    obtain ⟨a, vs, h1, h2, h3⟩ := rx
    subst h1
    exact ⟨a, vs, rfl, .inr (same_seqT hd_le h2), fun l nl => q.newL nl (no_dom hb nl) h3⟩
  | rol ds =>
    obtain ⟨a, vs, h1, h2, h3⟩ := rx
    subst h1
    exact ⟨a, vs, rfl, .inl (hd_le.seq h2), fun l nl => q.newL nl (no_dom hb nl) h3⟩
  | _ => exact q.elim
def gTuple : D → R Ev
  | .lst ds => .ok (.cl, .tup ds)
  | .tup ds => .ok (.cl, .tup ds)
  | _ => .bad
theorem cg_tuple {K : PySem.W.Frag} : CallG K (fun xs H Q => ∃ p ys, xs = [.ref p] ∧ ((SqL K H p ys ∧ ∀ l, H l = none → Q (.ref l) (upd H l (.tup ys))) ∨ (SqT K H p ys ∧ Q (.ref p) H))) gTuple := by
  intro hid own H Wx x dx Q hb rx q
  cases dx with
  | lst ds =>
    obtain ⟨a, vs, h1, h2, h3⟩ := rx
    subst h1
    exact ⟨a, vs, rfl, .inl ⟨SqL.of (hd_le _ _ h2), fun l nl => q.newT nl (no_dom hb nl) h3⟩⟩
  | tup ds =>
    obtain ⟨a, vs, h1, h2, h3⟩ := rx
    subst h1
    exact ⟨a, vs, rfl, .inr ⟨same_seqT hd_le h2, q.now ⟨a, vs, rfl, h2, h3⟩⟩⟩
  | _ => exact q.elim
def gMax2 : D → D → R Ev
  | .int i, .int j => .ok (.cl, .int (if j > i then j else i))
  | _, _ => .bad
theorem cg_max2 {K : PySem.W.Frag} : CallG2 K (fun xs H Q => ∃ i j, xs = [.int i, .int j] ∧ Q (.int (if j > i then j else i)) H) gMax2 := by
  intro hid own H Wx x y dx dy Q hb rx ry q
  unfold gMax2 at q
  split at q
  · exact ⟨_, _, by rw [show x = _ from rx, show y = _ from ry], q.now rfl⟩
  · exact q.elim
/-- isinstance(x, T), T a built-in class -/
def dty : D → String
  | .non => "NoneType"
  | .bl _ => "bool"
  | .int _ => "int"
  | .str _ => "str"
  | .tup _ => "tuple"
  | .lst _ => "list"
  | .rol _ => "list"
  | .dct _ _ => "dict"
  | .obj _ _ _ => "object"
/-- isinstance is not served for it -/
def isO : D → Bool
  | .dct _ _ => true
  | .obj _ _ _ => true
  | _ => false
def inst (n : String) (d : D) : Bool := dty d == n || (dty d == "bool" && n == "int")
def gIsi (n : String) (d : D) : R Ev := match isO d with
  | true => .bad
  | false => .ok (.cl, .bl (inst n d))
def eIsi (n : String) (fa : EF) : EF := op1 (gIsi n) fa
theorem kit_all (n : String) (h : kitB "NoneType" n = some ("NoneType" == n || ("NoneType" == "bool" && n == "int")) ∧ kitB "bool" n = some ("bool" == n || ("bool" == "bool" && n == "int")) ∧ kitB "int" n = some ("int" == n || ("int" == "bool" && n == "int")) ∧
    kitB "str" n = some ("str" == n || ("str" == "bool" && n == "int")) ∧ kitB "tuple" n = some ("tuple" == n || ("tuple" == "bool" && n == "int")) ∧ kitB "list" n = some ("list" == n || ("list" == "bool" && n == "int"))) : ∀ d, isO d = false → kitB (dty d) n = some (inst n d) := by
  obtain ⟨h1, h2, h3, h4, h5, h6⟩ := h
  intro d ho
  cases d with
  | non => exact h1
  | bl _ => exact h2
  | int _ => exact h3
  | str _ => exact h4
  | tup _ => exact h5
  | lst _ => exact h6
  | rol _ => exact h6
  | dct _ _ => exact nomatch ho
  | obj _ _ _ => exact nomatch ho
theorem tyx_of {K : PySem.W.Frag} {hid : Addr → Prop} {own : Own} {H : Hp} : ∀ {d : D} {v : V}, isO d = false → RT K hid own H d v → TyX K H v (.type (dty d)) := by
  intro d v ho h
  cases d with
  | non => cases (show _ = _ from h); exact .base .non
  | bl b => cases (show _ = _ from h); exact .base (.bl _)
  | int b => cases (show _ = _ from h); exact .base (.int _)
  | str b => cases (show _ = _ from h); exact .base (.str _)
  | tup b =>
    obtain ⟨a, vs, h1, h2, _⟩ := h
    subst h1
    rcases same_seqT hd_le h2 with (h2 | ⟨o, h2⟩) | ⟨o, its, n, h2, h3, _⟩
    · exact .base (.tup h2)
    · exact .fTuple h2
    · exact .kTuple h2 h3
  | lst b => obtain ⟨a, vs, h1, h2, _⟩ := h; subst h1; exact .base (.lst (hd_le _ _ h2))
  | rol b =>
    obtain ⟨a, vs, h1, h2, _⟩ := h
    subst h1
    rcases hd_le.seq h2 with (h2 | ⟨o, h2⟩) | ⟨o, its, n, h2, h3, _⟩
    · exact .base (.lst h2)
    · exact .base (.frz h2)
    · exact .kList h2 h3
  | dct _ _ => exact nomatch ho
  | obj _ _ _ => exact nomatch ho
section
variable {X : Cx} {W : WX} {e : Expr} {fa : EF} {p pos q : Pos}
theorem de_isi (n : String) {y : Str} (hk : ∀ d, isO d = false → kitB (dty d) n = some (inst n d)) (hg : Gl X "isinstance") (hm : X.mg "isinstance" = none) (hv : bootBuiltins "isinstance" = some (.builtin "isinstance")) (ha : DE X W e fa)
    (hy : Gl X y) (hmy : X.mg y = none) (hvy : bootBuiltins y = some (.type n)) (hs : starEach [e, .Name y q] X.env = (false, eval e X.env) :: starEach [.Name y q] X.env := by rfl)
    (hny : y ≠ "__name__" := by decide) (hdy : (y == ("__debug__" : Str)) = false := by decide) : DE X W (.Call (.Name "isinstance" p) [e, .Name y q] [] pos) (eIsi n fa) := by
  refine imp_pe (pe_callB call_isi hg hm hv (pa_cons ha (pa_cons (pe_bltn (v := .ty n) hy hmy hvy rfl hny hdy) pa_nil) hs) (by decide) (by decide) hs rfl) fun σ H Q ⟨hid, own, ρ, hS, h⟩ => ?_
  refine ⟨hid, own, ρ, hS, Post.part h fun x H1 v s1 r1 h1 => ?_⟩
  cases ho : isO x.2 with
  | true =>
    have h1 : Post X.K hid own H1 _ (match isO x.2 with | true => R.bad | false => .ok (.cl, .bl (inst n x.2))) _ := h1
    rw [ho] at h1
    exact h1.elim
  | false =>
    have h1 : Post X.K hid own H1 _ (match isO x.2 with | true => R.bad | false => .ok (.cl, .bl (inst n x.2))) _ := h1
    rw [ho] at h1
    exact ⟨v, .ty n, _, _, inst n x.2, rfl, .ty n, tyx_of ho r1.rt, kit_ty (hk x.2 ho), Post.now (K := X.K) h1 rfl⟩
end
end PL
set_option Elab.async false
set_option linter.all false
set_option maxRecDepth 100000
set_option maxHeartbeats 4000000
/-! PL4: methods of texts, subscripts, slices, displays, f-strings, calls of defs. -/
namespace PL
open PySem PySem.Spec L2

theorem RV.fwd {K : PySem.W.Frag} {hid : Addr → Prop} {own : Own} {H H1 H2 : Hp} (s : Same H1 H2) : ∀ {k : Kd} {d : D} {v : V}, RV K hid own H H1 k d v → RV K hid own H H2 k d v
  | .pk, _, _, h => RT.mono s h
  | .cl, _, _, h => Rp.mono (hd_same s) _ _ h
  | .fr, d, _, ⟨a, e, n, nb, m⟩ => by
    refine ⟨a, e, n, nb, ?_⟩
    cases d with
    | lst ds =>
      obtain ⟨vs, e1, e2⟩ := m
      exact ⟨vs, s _ _ e1, RpL.mono (hd_same s) _ _ e2⟩
    | dct ks ds =>
      obtain ⟨vs, ⟨kk, q1, q2, e1⟩, e2⟩ := m
      exact ⟨vs, ⟨kk, q1, q2, s _ _ e1⟩, RpL.mono (hd_same s) _ _ e2⟩
    | obj c ns ds =>
      obtain ⟨vs, ⟨C, dx, q1, q2, e1⟩, e2⟩ := m
      exact ⟨vs, ⟨C, dx, q1, q2, s _ _ e1⟩, RpL.mono (hd_same s) _ _ e2⟩
    | _ => exact m.elim

/-! ### methods of texts with one argument -/
def mth1 (g : D → D → R Ev) (fa fb : EF) : EF := fun ρ => (fa ρ).bind fun x => if isS x.2 = true then (fb ρ).bind fun y => g x.2 y.2 else .bad
def MthG (K : PySem.W.Frag) (r : V → List V → Hp → VK → Prop) (g : D → D → R Ev) : Prop := ∀ {hid own H Wx a y dy Q}, (∀ b, ob hid own b → H b ≠ none) → RT K hid own H dy y → Post K hid own H Wx (g (.str a) dy) Q → r (.str (S a)) [y] H Q
theorem isS_of {d : D} (h : isS d = true) : ∃ a, d = .str a := by
  cases d with
  | str a => exact ⟨a, rfl⟩
  | _ => exact absurd (show false = true from h) Bool.false_ne_true
section
variable {X : Cx} {W : WX} {o e : Expr} {fa fb : EF} {apos pos : Pos} {r : V → List V → Hp → VK → Prop} {g : D → D → R Ev}
theorem de_m1 {id : String} {name : Str} (slot : Slot "str" name id) (ty : typeOf (.builtin id) = pure (.type "method_descriptor")) (rule : MtR X id r) (hg : MthG X.K r g) (ho : DE X W o fa) (he : DE X W e fb)
    (hs : starEach [e] X.env = [(false, eval e X.env)] := by rfl) (hbase : attributeBase o name X.env (eval o X.env) = eval o X.env := by rfl) (hline : (apos.endLine == pos.line) = true := by rfl) :
    DE X W (.Call (.Attribute o name apos) [e] [] pos) (mth1 g fa fb) := by
  refine imp_pe (pe_m1 slot ty rule ho he hs hbase hline) fun σ H Q ⟨hid, own, ρ, hS, h⟩ => ⟨hid, own, ρ, hS, Post.part h fun x H1 v s1 r1 h1 => ?_⟩
  by_cases c : isS x.2 = true
  · rw [if_pos c] at h1
    obtain ⟨a, ea⟩ := isS_of c
    have rt := r1.rt
    rw [ea] at rt h1
    cases (show v = _ from rt)
    exact ⟨⟨_, rfl⟩, hid, own, ρ, hS.mono s1, Post.part h1 fun y H2 u s2 r2 h2 => hg ((hS.mono s1).mono s2).dom r2.rt h2⟩
  · rw [if_neg c] at h1; exact h1.elim
end
def all256 (b : List Nat) : Bool := b.all (· < 256)
theorem kind_S {a b : List Nat} (h : all256 b = true) : ¬ Builtin.Str.strKind (S a) < Builtin.Str.strKind (S b) := TL.kind_ok (by
  show (S b).cps.all (· < 256) = true
  simpa [S, all256] using h)
def gSplit : D → D → R Ev
  | .str a, .str b => if a.length + 2 ≤ 16777216 ∧ b ≠ [] ∧ all256 b = true then .ok (.fr, .lst ((TL.spl b 0 [] a).map D.str)) else .bad
  | _, _ => .bad
theorem split_S {a b : List Nat} (h1 : b ≠ []) (h2 : all256 b = true) : Txt.split (S a) (S b) = (TL.spl b 0 [] a).map S := by
  refine TL.map_tl_inj ?_
  rw [TL.split_spl _ _ (by rw [show TL.tl (S b) = b from S_cps b]; exact h1) (kind_S h2), show TL.tl (S b) = b from S_cps b, show TL.tl (S a) = a from S_cps a, List.map_map]
  conv => lhs; rw [← List.map_id (TL.spl b 0 [] a)]
  exact List.map_congr_left fun x _ => (S_cps x).symm
theorem mg_split {K : PySem.W.Frag} : MthG K (fun x xs H Q => ∃ a b, x = .str a ∧ xs = [.str b] ∧ (b.length == 0) = false ∧ a.length + 2 ≤ sizeLine ∧ rNewStrs (Txt.split a b) H Q) gSplit := by
  intro hid own H Wx a y dy Q hb ry q
  cases dy with
  | str b =>
    have q : Post K hid own H Wx (if a.length + 2 ≤ 16777216 ∧ b ≠ [] ∧ all256 b = true then .ok (.fr, .lst ((TL.spl b 0 [] a).map D.str)) else .bad) Q := q
    split at q
    · rename_i h
      cases (show y = _ from ry)
      refine ⟨_, _, rfl, rfl, ?_, by rw [S_len, sizeLine_eq]; exact h.1, fun p np => ?_⟩
      · rw [S_len, beq_eq_false_iff_ne]
        exact fun z => h.2.1 (List.length_eq_zero_iff.mp z)
      · rw [split_S h.2.1 h.2.2]
        exact q.newL np (no_dom hb np) (RpL.of_strs _)
    · exact q.elim
  | _ => exact q.elim
def gPart : D → D → R Ev
  | .str a, .str b => if a.length ≤ 16777216 ∧ b ≠ [] then .ok (.cl, match TL.par b [] a with
      | some (p, q) => .tup [.str p, .str b, .str q]
      | none => .tup [.str a, .str [], .str []]) else .bad
  | _, _ => .bad
theorem mg_part {K : PySem.W.Frag} : MthG K (fun x xs H Q => ∃ a b, x = .str a ∧ xs = [.str b] ∧ (b.length == 0) = false ∧ a.length ≤ sizeLine ∧
      ∀ p, H p = none → Q (.ref p) (upd H p (.tup [.str (Txt.partition a b).1, .str (Txt.partition a b).2.1, .str (Txt.partition a b).2.2]))) gPart := by
  intro hid own H Wx a y dy Q hb ry q
  cases dy with
  | str b =>
    have q : Post K hid own H Wx (if a.length ≤ 16777216 ∧ b ≠ [] then .ok (.cl, match TL.par b [] a with
      | some (p, q) => .tup [.str p, .str b, .str q]
      | none => .tup [.str a, .str [], .str []]) else .bad) Q := q
    split at q
    · rename_i h
      cases (show y = _ from ry)
      refine ⟨_, _, rfl, rfl, ?_, by rw [S_len, sizeLine_eq]; exact h.1, fun p np => ?_⟩
      · rw [S_len, beq_eq_false_iff_ne]
        exact fun z => h.2 (List.length_eq_zero_iff.mp z)
      · rw [TL.partition_par _ _ (by rw [show TL.tl (S b) = b from S_cps b]; exact h.2), show TL.tl (S b) = b from S_cps b, show TL.tl (S a) = a from S_cps a]
        cases e : TL.par b [] a with
        | none => rw [e] at q; exact q.newT np (no_dom hb np) ⟨_, _, rfl, rfl, _, _, rfl, rfl, _, _, rfl, rfl, rfl⟩
        | some z =>
          obtain ⟨z1, z2⟩ := z
          rw [e] at q
          exact q.newT np (no_dom hb np) ⟨_, _, rfl, rfl, _, _, rfl, rfl, _, _, rfl, rfl, rfl⟩
    · exact q.elim
  | _ => exact q.elim
def joinSize (a : List Nat) (ns : List (List Nat)) : Nat := (ns.map List.length).sum + ns.length * a.length
def joinR (a : List Nat) (ds : List D) : R Ev := match unS ds with
  | some ns => if joinSize a ns ≤ 16777216 then .ok (.cl, .str (TL.joinL a ns)) else .bad
  | none => .bad
def gJoin : D → D → R Ev
  | .str a, .lst ds => joinR a ds
  | .str a, .tup ds => joinR a ds
  | _, _ => .bad
theorem join_S (a : List Nat) (ns : List (List Nat)) : Txt.join (S a) (ns.map S) = S (TL.joinL a ns) := by
  rw [TL.join_eq]
  refine TL.ext_tl ?_
  rw [TL.tl_join, List.map_map, show TL.tl (S a) = a from S_cps a, show TL.tl (S (TL.joinL a ns)) = _ from S_cps _]
  have e : List.map (TL.tl ∘ S) ns = ns := by
    conv => rhs; rw [← List.map_id ns]
    exact List.map_congr_left fun x _ => S_cps x
  rw [e]
theorem sum_S (ns : List (List Nat)) : ((ns.map S).map (·.length)).sum = (ns.map List.length).sum := by
  rw [List.map_map]
  exact congrArg List.sum (List.map_congr_left fun x _ => S_len x)
theorem mg_join {K : PySem.W.Frag} : MthG K (fun x xs H Q => ∃ a p, ∃ ys : List Str, x = .str a ∧ xs = [.ref p] ∧ (SqL K H p (ys.map V.str) ∨ SqT K H p (ys.map V.str)) ∧
      (ys.map (·.length)).sum + ys.length * a.length ≤ 16777216 ∧ Q (.str (Txt.join a ys)) H) gJoin := by
  intro hid own H Wx a y dy Q hb ry q
  have fin : ∀ (ds : List D) (vs : List V) (p : Addr), Post K hid own H Wx (joinR a ds) Q → RpL K (hd H (ob hid own)) ds vs → y = .ref p → (SqL K H p vs ∨ SqT K H p vs) → ∃ a' p, ∃ ys : List Str, V.str (S a) = .str a' ∧ [y] = [.ref p] ∧ (SqL K H p (ys.map V.str) ∨ SqT K H p (ys.map V.str)) ∧
      (ys.map (·.length)).sum + ys.length * a'.length ≤ 16777216 ∧ Q (.str (Txt.join a' ys)) H := fun ds vs p q r e h => by
    unfold joinR at q
    cases en : unS ds with
    | none => rw [en] at q; exact q.elim
    | some ns =>
      rw [en] at q
      have q : Post K hid own H Wx (if joinSize a ns ≤ 16777216 then .ok (.cl, .str (TL.joinL a ns)) else .bad) Q := q
      split at q
      · rename_i hz
        rw [unS_some en] at r
        rw [r.strs] at h
        refine ⟨S a, p, ns.map S, rfl, by rw [e], h, ?_, ?_⟩
        · rw [sum_S, List.length_map, S_len]; exact hz
        · rw [join_S]; exact q.now rfl
      · exact q.elim
  cases dy with
  | lst ds =>
    obtain ⟨p, vs, h1, h2, h3⟩ := ry
    exact fin ds vs p q h3 h1 (.inl (SqL.of (hd_le _ _ h2)))
  | tup ds =>
    obtain ⟨p, vs, h1, h2, h3⟩ := ry
    exact fin ds vs p q h3 h1 (.inr (same_seqT hd_le h2))
  | _ => exact q.elim
section
variable {X : Cx} {W : WX} {o e : Expr} {fa fb : EF} {apos pos : Pos}
theorem de_split (ho : DE X W o fa) (he : DE X W e fb) (hs : starEach [e] X.env = [(false, eval e X.env)] := by rfl) (hbase : attributeBase o "split" X.env (eval o X.env) = eval o X.env := by rfl) (hline : (apos.endLine == pos.line) = true := by rfl) :
    DE X W (.Call (.Attribute o "split" apos) [e] [] pos) (mth1 gSplit fa fb) := de_m1 F.slot_str_split F.type_str_split mt_split mg_split ho he hs hbase hline
theorem de_part (ho : DE X W o fa) (he : DE X W e fb) (hs : starEach [e] X.env = [(false, eval e X.env)] := by rfl) (hbase : attributeBase o "partition" X.env (eval o X.env) = eval o X.env := by rfl) (hline : (apos.endLine == pos.line) = true := by rfl) :
    DE X W (.Call (.Attribute o "partition" apos) [e] [] pos) (mth1 gPart fa fb) := de_m1 F.slot_str_partition F.type_str_partition mt_partition mg_part ho he hs hbase hline
theorem de_join (ho : DE X W o fa) (he : DE X W e fb) (hs : starEach [e] X.env = [(false, eval e X.env)] := by rfl) (hbase : attributeBase o "join" X.env (eval o X.env) = eval o X.env := by rfl) (hline : (apos.endLine == pos.line) = true := by rfl) :
    DE X W (.Call (.Attribute o "join" apos) [e] [] pos) (mth1 gJoin fa fb) := de_m1 F.slot_str_join F.type_str_join mt_join mg_join ho he hs hbase hline
end

/-! ### subscripts, slices -/
def gIx : D → D → R Ev
  | .lst ds, .int i => match atI ds i with | some d => .ok (.cl, d) | none => .bad
  | .rol ds, .int i => match atI ds i with | some d => .ok (.cl, d) | none => .bad
  | .tup ds, .int i => match atI ds i with | some d => .ok (.cl, d) | none => .bad
  | .str z, .int i => if z.length ≤ 16777216 then (match atI z i with | some c => .ok (.cl, .str [c]) | none => .bad) else .bad
  | _, _ => .bad
theorem atI_rp {K : PySem.W.Frag} {H : Hp} {ds : List D} {vs : List V} {i : Int} {d : D} (r : RpL K H ds vs) (h : atI ds i = some d) : ∃ v, atI vs i = some v ∧ Rp K H d v := by
  unfold atI at h ⊢
  rw [r.len]
  cases e : ixN ds.length i with
  | none => rw [e] at h; cases h
  | some j => rw [e] at h; exact r.get h
theorem opg_ix {K : PySem.W.Frag} : OpG K (rIx K) gIx := by
  intro hid own H Wx x y dx dy Q hb rx ry q
  have key : ∀ (ds : List D) (vs : List V) (i : Int), Post K hid own H Wx (match atI ds i with | some d => .ok (.cl, d) | none => .bad) Q → RpL K (hd H (ob hid own)) ds vs → ∃ v, atI vs i = some v ∧ Q v H := fun ds vs i q r => by
    cases e : atI ds i with
    | none => rw [e] at q; exact q.elim
    | some d =>
      rw [e] at q
      obtain ⟨v, e1, e2⟩ := atI_rp r e
      exact ⟨v, e1, q.now e2⟩
  cases dy with
  | int i =>
    cases (show y = _ from ry)
    cases dx with
    | lst ds =>
      obtain ⟨a, vs, h1, h2, h3⟩ := rx
      obtain ⟨v, e1, e2⟩ := key ds vs i q h3
      exact .inl ⟨a, vs, i, v, h1, rfl, SqL.of (hd_le _ _ h2), e1, e2⟩
    | rol ds =>
      obtain ⟨a, vs, h1, h2, h3⟩ := rx
      obtain ⟨v, e1, e2⟩ := key ds vs i q h3
      exact .inl ⟨a, vs, i, v, h1, rfl, hd_le.seq h2, e1, e2⟩
    | tup ds =>
      obtain ⟨a, vs, h1, h2, h3⟩ := rx
      obtain ⟨v, e1, e2⟩ := key ds vs i q h3
      exact .inr (.inl ⟨a, vs, i, v, h1, rfl, same_seqT hd_le h2, e1, e2⟩)
    | str z =>
      have q : Post K hid own H Wx (if z.length ≤ 16777216 then (match atI z i with | some c => .ok (.cl, .str [c]) | none => .bad) else .bad) Q := q
      split at q
      · rename_i hz
        cases e : atI z i with
        | none => rw [e] at q; exact q.elim
        | some c =>
          rw [e] at q
          exact .inr (.inr ⟨S z, i, c, rx, rfl, by rw [S_len, sizeLine_eq]; exact hz, by rw [S_cps]; exact e, q.now rfl⟩)
      · exact q.elim
    | _ => exact q.elim
  | _ => cases dx <;> exact q.elim
section
variable {X : Cx} {W : WX} {a b : Expr} {fa fb : EF} {pos : Pos}
theorem de_ix (ha : DE X W a fa) (hb : DE X W b fb) (hs : PlainIx b := by intro _ _; rfl) : DE X W (.Subscript a b pos) (op2 gIx fa fb) := imp_pe (pe_ix ix_seq ha hb hs) (two opg_ix)
end
abbrev OF := Ro → R (Option Int)
def tO (K : PySem.W.Frag) (mg : Str → Option Value) (W : WX) (f : OF) : TO := fun σ H Q => ∃ hid own ρ, SR K hid own H ρ σ ∧ match f ρ with
  | .ok o => ∀ H', Same H H' → Q o H'
  | .exc c => ∀ H', Same H H' → Wc mg W σ c H'
  | .bad => False
theorem imp_po {X : Cx} {e : Option Expr} {t t' : TO} (h : PO X e t) (k : ∀ σ H Q, t' σ H Q → t σ H Q) : PO X e t' := ⟨fun pins s σ H Q I q => h.run pins s σ H Q I (k _ _ _ q)⟩
abbrev DO (X : Cx) (W : WX) (e : Option Expr) (f : OF) : Prop := PO X e (tO X.K X.mg W f)
def oNo : OF := fun _ => .ok none
def oSome (fa : EF) : OF := fun ρ => (fa ρ).bind fun x => match x.2 with | .int i => .ok (some i) | _ => .bad
section
variable {X : Cx} {W : WX} {e : Expr} {fa : EF} {lo hi : Option Expr} {fl fh : OF} {pos p2 : Pos}
theorem do_none : DO X W none oNo := imp_po po_none fun σ H Q ⟨hid, own, ρ, hS, h⟩ => h H (Same.refl _)
theorem do_some (h : DE X W e fa) : DO X W (some e) (oSome fa) := by
  refine imp_po (po_some h) fun σ H Q ⟨hid, own, ρ, hS, q⟩ => ⟨hid, own, ρ, hS, ?_⟩
  unfold oSome at q
  cases e1 : fa ρ with
  | ok x =>
    rw [e1] at q
    obtain ⟨k, d⟩ := x
    intro H1 v s1 r1
    cases d with
    | int i => exact ⟨i, r1.rt, q H1 s1⟩
    | _ => exact q.elim
  | exc c => rw [e1] at q; exact q
  | bad => rw [e1] at q; exact q
def cutL {α : Type} (xs : List α) (lo hi : Option Int) : List α := (xs.drop (HT.sIx xs.length 0 lo)).take (HT.sIx xs.length xs.length hi - HT.sIx xs.length 0 lo)
def gSl : D → Option Int → Option Int → R Ev
  | .str z, lo, hi => if z.length ≤ 16777216 then .ok (.cl, .str (cutL z lo hi)) else .bad
  | .lst ds, lo, hi => .ok (.fr, .lst (cutL ds lo hi))
  | .tup ds, lo, hi => .ok (.cl, .tup (cutL ds lo hi))
  | _, _, _ => .bad
def eSl (fa : EF) (fl fh : OF) : EF := fun ρ => (fa ρ).bind fun x => (fl ρ).bind fun l => (fh ρ).bind fun h => gSl x.2 l h
theorem cut_S (z : List Nat) (lo hi : Option Int) : cutS (S z) lo hi = S (cutL z lo hi) := by
  unfold cutS cutL
  rw [S_len, S_cps] <;> rfl
theorem cut_rp {K : PySem.W.Frag} {H : Hp} {ds : List D} {vs : List V} (r : RpL K H ds vs) (lo hi : Option Int) : RpL K H (cutL ds lo hi) (cutV vs lo hi) := by
  unfold cutL cutV
  rw [r.len]
  exact (r.drop _).take _
theorem cut_all {α : Type} {xs : List α} {lo hi : Option Int} (h : HT.sIx xs.length 0 lo = 0 ∧ HT.sIx xs.length xs.length hi = xs.length) : cutL xs lo hi = xs := by
  unfold cutL
  rw [h.1, h.2, List.drop_zero, Nat.sub_zero, List.take_length]
theorem slR_any : SlR X (fun x lo hi H Q => rSlS x lo hi H Q ∨ rSlL X.K x lo hi H Q ∨ rSlA X.K x lo hi H Q) := sl_str.or (sl_list.or sl_tupA)
theorem de_slice (ha : DE X W e fa) (hl : DO X W lo fl) (hh : DO X W hi fh) : DE X W (.Subscript e (.Slice lo hi none p2) pos) (eSl fa fl fh) := by
  refine imp_pe (pe_slice slR_any ha hl hh) fun σ H Q ⟨hid, own, ρ, hS, h⟩ => ⟨hid, own, ρ, hS, Post.part h fun x H1 v s1 r1 h1 => ⟨hid, own, ρ, hS.mono s1, ?_⟩⟩
  cases e1 : fl ρ with
  | exc c => rw [e1] at h1; exact h1
  | bad => rw [e1] at h1; exact h1
  | ok l =>
    rw [e1] at h1
    have h1 : Post X.K hid own H1 (Wc X.mg W σ) ((fh ρ).bind fun h => gSl x.2 l h) Q := h1
    intro H2 s2
    refine ⟨hid, own, ρ, (hS.mono s1).mono s2, ?_⟩
    cases e2 : fh ρ with
    | exc c => rw [e2] at h1; exact fun H3 s3 => h1 H3 (s2.trans s3)
    | bad => rw [e2] at h1; exact h1
    | ok h =>
      rw [e2] at h1
      have h1 : Post X.K hid own H1 (Wc X.mg W σ) (gSl x.2 l h) Q := h1
      intro H3 s3
      have S3 := ((hS.mono s1).mono s2).mono s3
      have rt : RT X.K hid own H3 x.2 v := (r1.rt.mono s2).mono s3
      have h3 := Post.mono (s2.trans s3) h1
      obtain ⟨k, d⟩ := x
      cases d with
      | str z =>
        have h3 : Post X.K hid own H3 (Wc X.mg W σ) (if z.length ≤ 16777216 then .ok (.cl, .str (cutL z l h)) else .bad) Q := h3
        split at h3
        · rename_i hz
          exact .inl ⟨S z, rt, by rw [S_len, sizeLine_eq]; exact hz, by rw [cut_S]; exact h3.now rfl⟩
        · exact h3.elim
      | lst ds =>
        obtain ⟨a, vs, q1, q2, q3⟩ := rt
        exact .inr (.inl ⟨a, vs, q1, SqL.of (hd_le _ _ q2), fun p np => h3.newL np (no_dom S3.dom np) (cut_rp q3 l h)⟩)
      | tup ds =>
        obtain ⟨a, vs, q1, q2, q3⟩ := rt
        refine .inr (.inr ⟨a, vs, q1, same_seqT hd_le q2, fun w => ?_, fun w p np => h3.newT np (no_dom S3.dom np) (cut_rp q3 l h)⟩)
        rw [q3.len] at w
        have h3 : Post X.K hid own H3 (Wc X.mg W σ) (.ok (.cl, .tup (cutL ds l h))) Q := h3
        rw [cut_all w] at h3
        exact h3.now ⟨a, vs, rfl, q2, q3⟩
      | _ => exact h3.elim
/-- xs[::-1] -/
def eRev (fa : EF) : EF := op1 (fun d => match d with | .lst ds => .ok (.fr, .lst ds.reverse) | _ => .bad) fa
theorem de_rev {k : Nat} {p1 p3 : Pos} (ha : DE X W e fa) : DE X W (.Subscript e (.Slice none none (some (.UnaryOp .USub (.Constant (.int 1) k p1) p2)) p3) pos) (eRev fa) := by
  refine imp_pe (pe_revL ha) fun σ H Q ⟨hid, own, ρ, hS, h⟩ => ⟨hid, own, ρ, hS, Post.part h fun x H1 v s1 r1 h1 => ?_⟩
  obtain ⟨k, d⟩ := x
  cases d with
  | lst ds =>
    obtain ⟨a, vs, q1, q2, q3⟩ := r1.rt
    exact ⟨a, vs, q1, SqL.of (hd_le _ _ q2), fun p np => Post.newL (K := X.K) h1 np ((hS.mono s1).vis np) q3.rev⟩
  | _ => exact h1.elim
end

/-! ### arguments and displays -/
def aNil : AF := fun _ => .ok []
def aCons (fa : EF) (fs : AF) : AF := fun ρ => (fa ρ).bind fun e => (fs ρ).bind fun es => .ok (e :: es)
section
variable {X : Cx} {W : WX} {e : Expr} {es : List Expr} {fa : EF} {fs : AF} {pos : Pos}
theorem da_nil : DA X W [] aNil := imp_pa pa_nil fun σ H Q ⟨hid, own, ρ, hS, h⟩ => h H [] (Same.refl _) hS.dom rfl
theorem da_cons (ha : DE X W e fa) (hr : DA X W es fs) (hs : starEach (e :: es) X.env = (false, eval e X.env) :: starEach es X.env := by rfl) : DA X W (e :: es) (aCons fa fs) := by
  refine imp_pa (pa_cons ha hr hs) fun σ H Q ⟨hid, own, ρ, hS, h⟩ => ⟨hid, own, ρ, hS, ?_⟩
  unfold aCons at h
  cases e1 : fa ρ with
  | exc c => rw [e1] at h; exact h
  | bad => rw [e1] at h; exact h
  | ok x =>
    rw [e1] at h
    intro H1 v s1 r1
    refine ⟨hid, own, ρ, hS.mono s1, ?_⟩
    have h : PostA X.K hid own H (Wc X.mg W σ) ((fs ρ).bind fun es => .ok (x :: es)) Q := h
    cases e2 : fs ρ with
    | exc c => rw [e2] at h; exact fun H2 s2 => h H2 (s1.trans s2)
    | bad => rw [e2] at h; exact h
    | ok ys =>
      rw [e2] at h
      intro H2 vs s2 d2 r2
      exact h H2 (v :: vs) (s1.trans s2) d2 ⟨v, vs, rfl, r1.fwd s2, r2.base s1⟩
theorem RVs.clean {K : PySem.W.Frag} {hid : Addr → Prop} {own : Own} {H H' : Hp} : ∀ {es : List Ev} {vs : List V}, es.all okE = true → RVs K hid own H H' es vs → RpL K (hd H' (ob hid own)) (es.map (·.2)) vs
  | [], _, _, h => h
  | (k, d) :: es, _, o, ⟨v, r, e, a, b⟩ => by
    rw [List.all_cons, Bool.and_eq_true] at o
    exact ⟨v, r, e, a.clean o.1, RVs.clean o.2 b⟩
theorem RVs.len {K : PySem.W.Frag} {hid : Addr → Prop} {own : Own} {H H' : Hp} : ∀ {es : List Ev} {vs : List V}, RVs K hid own H H' es vs → vs.length = es.length
  | [], _, h => by rw [show _ = _ from h]; rfl
  | _ :: _, _, ⟨v, r, e, a, b⟩ => by rw [e, List.length_cons, List.length_cons, RVs.len b]
def disp (mk : List D → Ev) (fs : AF) : EF := fun ρ => (fs ρ).bind fun es => if es.all okE = true ∧ es.length ≤ 16777216 then .ok (mk (es.map (·.2))) else .bad
theorem disp_part {σ : L2.St} {H : Hp} {Q : VK} {mk : List D → Ev} {T : List V → Hp → Prop} {hid : Addr → Prop} {own : Own} {ρ : Ro} (h : Post X.K hid own H (Wc X.mg W σ) (disp mk fs ρ) Q)
    (k : ∀ ds vs H1, Same H H1 → (∀ b, ob hid own b → H1 b ≠ none) → RpL X.K (hd H1 (ob hid own)) ds vs → vs.length ≤ sizeLine → Post X.K hid own H1 (Wc X.mg W σ) (.ok (mk ds)) Q → T vs H1) : PostA X.K hid own H (Wc X.mg W σ) (fs ρ) T := by
  unfold disp at h
  cases e : fs ρ with
  | exc c => rw [e] at h; exact h
  | bad => rw [e] at h; exact h
  | ok es =>
    rw [e] at h
    intro H1 vs s1 d1 r1
    have h : Post X.K hid own H (Wc X.mg W σ) (if es.all okE = true ∧ es.length ≤ 16777216 then .ok (mk (es.map (·.2))) else .bad) Q := h
    split at h
    · rename_i c
      exact k _ vs H1 s1 d1 (r1.clean c.1) (by rw [r1.len, sizeLine_eq]; exact c.2) (Post.mono s1 h)
    · exact h.elim
theorem de_lst (h : DA X W es fs) : DE X W (.List es pos) (disp (fun ds => (.fr, .lst ds)) fs) :=
  imp_pe (pe_lst h) fun σ H Q ⟨hid, own, ρ, hS, q⟩ => ⟨hid, own, ρ, hS, disp_part q fun ds vs H1 s1 d1 r z q1 => ⟨z, fun p np => q1.newL np (no_dom d1 np) r⟩⟩
theorem de_tup {x1 : Nat} (h : DA X W es fs) : DE X W (.Tuple es x1 pos) (disp (fun ds => (.cl, .tup ds)) fs) :=
  imp_pe (pe_tup h) fun σ H Q ⟨hid, own, ρ, hS, q⟩ => ⟨hid, own, ρ, hS, disp_part q fun ds vs H1 s1 d1 r z q1 => ⟨z, fun p np => q1.newT np (no_dom d1 np) r⟩⟩
end

/-! ### f-strings -/
def fFmt (fa : EF) : EF := op1 (fun d => match d with
  | .str a => if a.length ≤ 16777216 then .ok (.cl, .str a) else .bad
  | .int i => if 0 ≤ i ∧ i < 2 ^ 64 then .ok (.cl, .str (TL.numL i.toNat)) else .bad
  | _ => .bad) fa
inductive DJ (X : Cx) (W : WX) : List Expr → List EF → Prop where
  | nil : DJ X W [] []
  | cons {e : Expr} {f : EF} {es : List Expr} {fs : List EF} (h : DE X W e f) (r : DJ X W es fs) : DJ X W (e :: es) (f :: fs)
def eFs : List EF → List Nat → EF
  | [], acc => fun _ => .ok (.cl, .str acc)
  | f :: fs, acc => fun ρ => (f ρ).bind fun x => match x.2 with
    | .str y => if (acc ++ y).length ≤ 16777216 then eFs fs (acc ++ y) ρ else .bad
    | _ => .bad
section
variable {X : Cx} {W : WX} {e : Expr} {fa : EF} {pos : Pos}
theorem de_fmt (he : DE X W e fa) : DE X W (.FormattedValue e (-1) none pos) (fFmt fa) := by
  refine imp_pe (pe_fmt he) fun σ H Q ⟨hid, own, ρ, hS, h⟩ => ⟨hid, own, ρ, hS, Post.part h fun x H1 v s1 r1 h1 => ?_⟩
  obtain ⟨k, d⟩ := x
  have rt := r1.rt
  cases d with
  | str a =>
    have h1 : Post X.K hid own H1 (Wc X.mg W σ) (if a.length ≤ 16777216 then .ok (.cl, .str a) else .bad) Q := h1
    split at h1
    · rename_i hz
      exact .inl ⟨S a, rt, by rw [S_len, sizeLine_eq]; exact hz, h1.now rfl⟩
    · exact h1.elim
  | int i =>
    have h1 : Post X.K hid own H1 (Wc X.mg W σ) (if 0 ≤ i ∧ i < 2 ^ 64 then .ok (.cl, .str (TL.numL i.toNat)) else .bad) Q := h1
    split at h1
    · rename_i hz
      exact .inr ⟨i, rt, log_small (by omega), by rw [num_text hz.1]; exact h1.now rfl⟩
    · exact h1.elim
  | _ => exact h1.elim
theorem DJ.pj {es : List Expr} {fs : List EF} (h : DJ X W es fs) : PJ X es (fs.map (tE X.K X.mg W)) := by
  induction h with
  | nil => exact .nil
  | cons h r ih => exact .cons h ih
theorem tjs_of : ∀ (fs : List EF) (acc : List Nat) (σ : L2.St) (H : Hp) (Q : VK), tE X.K X.mg W (eFs fs acc) σ H Q → tJs (fs.map (tE X.K X.mg W)) (S acc) σ H fun out H1 => Q (.str out) H1
  | [], acc, σ, H, Q, ⟨hid, own, ρ, hS, h⟩ => Post.now (K := X.K) h rfl
  | f :: fs, acc, σ, H, Q, ⟨hid, own, ρ, hS, h⟩ => by
    refine ⟨hid, own, ρ, hS, Post.part h fun x H1 v s1 r1 h1 => ?_⟩
    obtain ⟨k, d⟩ := x
    have rt := r1.rt
    cases d with
    | str y =>
      have h1 : Post X.K hid own H1 (Wc X.mg W σ) (if (acc ++ y).length ≤ 16777216 then eFs fs (acc ++ y) ρ else .bad) Q := h1
      split at h1
      · rename_i hz
        refine ⟨S y, rt, by rw [S_app, S_len, sizeLine_eq]; exact hz, ?_⟩
        rw [S_app]
        exact tjs_of fs (acc ++ y) σ H1 Q ⟨hid, own, ρ, hS.mono s1, h1⟩
      · exact h1.elim
    | _ => exact h1.elim
theorem de_fs {v1 v2 : Expr} {rest : List Expr} {fs : List EF} (h : DJ X W (v1 :: v2 :: rest) fs) : DE X W (.JoinedStr (v1 :: v2 :: rest) pos) (eFs fs []) :=
  imp_pe (pe_joined h.pj) fun σ H Q q => tjs_of fs [] σ H Q q
end

/-! ### a def's promise, its calls -/
mutual
def noL : D → Bool
  | .tup xs => noLs xs
  | .lst _ => false
  | .rol _ => false
  | .dct _ _ => false
  | .obj _ _ _ => false
  | _ => true
def noLs : List D → Bool
  | [] => true
  | x :: xs => noL x && noLs xs
end
/-- what comes back holds no list that was handed in -/
def noLE : Ev → Bool
  | (.fr, .lst ds) => noLs ds
  | (.fr, .dct _ ds) => noLs ds
  | (.fr, .obj _ _ ds) => noLs ds
  | (_, d) => noL d
abbrev FD := List D → R Ev
def spD (K : PySem.W.Frag) (mg : Str → Option Value) (n : Nat) (f : FD) : Sp := fun vs H Q E => ∃ hid ds, (∀ b, hid b → H b ≠ none) ∧ RpL K (hd H hid) ds vs ∧ ds.length = n ∧ Post K hid noOwn H (fun c H' => ∀ C, mg c = some (.ref C) → E (.ref C) none H') (f ds) Q
def pkL : Ev → Bool
  | (.pk, d) => isL d
  | _ => false
def eCall (f : FD) (n : Nat) (fs : AF) : EF := fun ρ => (fs ρ).bind fun es => if es.length = n then (if es.any pkL = true then (f (es.map (·.2))).bind (fun r => if noLE r = true then .ok r else .bad) else f (es.map (·.2))) else .bad
theorem pkL_ok {e : Ev} (h : pkL e = false) : okE e = true := by
  obtain ⟨k, d⟩ := e
  cases k with
  | pk => exact (by simpa [pkL, okE] using h)
  | cl => rfl
  | fr => rfl
mutual
theorem noL_rp {K : PySem.W.Frag} {H : Hp} {P P' : Addr → Prop} (h : ∀ b, P' b → ¬ P b → ∃ o, H b = some o ∧ Ownd o) : ∀ (d : D) (v : V), noL d = true → Rp K (hd H P) d v → Rp K (hd H P') d v
  | .non, _, _, r => r
  | .bl _, _, _, r => r
  | .int _, _, _, r => r
  | .str _, _, _, r => r
  | .tup xs, _, n, ⟨a, vs, h1, h2, h3⟩ => by
    refine ⟨a, vs, h1, ?_, noLs_rp h xs vs n h3⟩
    have go : ∀ o : HO, hd H P a = some o → (¬ Ownd o) → hd H P' a = some o := fun o e no => by
      obtain ⟨e1, e2⟩ := hd_some.mp e
      refine hd_some.mpr ⟨fun z => ?_, e2⟩
      obtain ⟨xs, e3, e4⟩ := h a z e1
      rw [e2] at e3
      cases e3
      exact no e4
    rcases h2 with (h2 | ⟨o, h2⟩) | h2
    · exact .inl (.inl (go _ h2 fun z => z))
    · exact .inl (.inr ⟨o, go _ h2 fun z => z⟩)
    · exact .inr h2
  | .lst _, _, n, _ => absurd (show false = true from n) Bool.false_ne_true
  | .rol _, _, n, _ => absurd (show false = true from n) Bool.false_ne_true
  | .dct _ _, _, n, _ => absurd (show false = true from n) Bool.false_ne_true
  | .obj _ _ _, _, n, _ => absurd (show false = true from n) Bool.false_ne_true
theorem noLs_rp {K : PySem.W.Frag} {H : Hp} {P P' : Addr → Prop} (h : ∀ b, P' b → ¬ P b → ∃ o, H b = some o ∧ Ownd o) : ∀ (ds : List D) (vs : List V), noLs ds = true → RpL K (hd H P) ds vs → RpL K (hd H P') ds vs
  | [], _, _, r => r
  | d :: ds, _, n, ⟨v, r, h1, h2, h3⟩ => by
    have n : (noL d && noLs ds) = true := n
    rw [Bool.and_eq_true] at n
    exact ⟨v, r, h1, noL_rp h d v n.1 h2, noLs_rp h ds r n.2 h3⟩
end
theorem RVs.rp {K : PySem.W.Frag} {hid : Addr → Prop} {own : Own} {H H' : Hp} : ∀ {es : List Ev} {vs : List V}, RVs K hid own H H' es vs → RpL K (hd H' hid) (es.map (·.2)) vs
  | [], _, h => h
  | _ :: es, _, ⟨v, r, e, a, b⟩ => ⟨v, r, e, a.rt.rp, RVs.rp b⟩
theorem ob_assoc {hid : Addr → Prop} {own : Own} {b : Addr} : ob (ob hid own) noOwn b ↔ ob hid own b := ob_no
section
variable {X : Cx} {W : WX} {k : Nat} {f : Addr} {fd : FuncData} {ps : List Str} {x : Str} {p pos : Pos} {e : Expr} {es : List Expr} {fs : AF} {F : FD} {n : Nat}
theorem post_ob {K : PySem.W.Frag} {hid : Addr → Prop} {own : Own} {H : Hp} {Wx Wx' : Str → Hp → Prop} {r : R Ev} {Q : VK} (hw : ∀ c H', Wx c H' → Wx' c H') (h : Post K hid own H Wx r Q) : Post K (ob hid own) noOwn H Wx' r Q := by
  cases r with
  | bad => exact h
  | exc c => exact fun H' s => hw c H' (h H' s)
  | ok e =>
    intro H' v s q
    refine h H' v s ?_
    obtain ⟨k, d⟩ := e
    cases k with
    | cl => exact Rp.mono (hd_mono fun b o e n => ⟨e, fun z => n (ob_no.mpr z)⟩) _ _ q
    | fr =>
      obtain ⟨a, e1, e2, e3, m⟩ := q
      exact ⟨a, e1, e2, fun z => e3 (ob_no.mpr z), m.mono (hd_mono fun b o e n => ⟨e, fun z => n (z.elim (fun z => .inl (ob_no.mpr z)) .inr)⟩)⟩
    | pk =>
      cases d with
      | lst ds =>
        obtain ⟨a, vs, e1, e2, e3⟩ := q
        exact ⟨a, vs, e1, hd_ob_hid _ _ e2, RpL.mono (hd_mono fun b o e n => ⟨e, fun z => n (ob_no.mpr z)⟩) _ _ e3⟩
      | dct ks ds =>
        obtain ⟨a, vs, e1, ⟨kk, q1, q2, e2⟩, e3⟩ := q
        exact ⟨a, vs, e1, ⟨kk, q1, q2, hd_ob_hid _ _ e2⟩, RpL.mono (hd_mono fun b o e n => ⟨e, fun z => n (ob_no.mpr z)⟩) _ _ e3⟩
      | obj c ns ds =>
        obtain ⟨a, vs, e1, ⟨C, dx, q1, q2, e2⟩, e3⟩ := q
        exact ⟨a, vs, e1, ⟨C, dx, q1, q2, hd_ob_hid _ _ e2⟩, RpL.mono (hd_mono fun b o e n => ⟨e, fun z => n (ob_no.mpr z)⟩) _ _ e3⟩
      | non => exact q
      | bl _ => exact q
      | int _ => exact q
      | str _ => exact q
      | tup _ => exact Rp.mono (hd_mono fun b o e n => ⟨e, fun z => n (ob_no.mpr z)⟩) _ _ q
      | rol _ => exact Rp.mono (hd_mono fun b o e n => ⟨e, fun z => n (ob_no.mpr z)⟩) _ _ q
theorem de_call (G : FnOk X.prog X.w X.K X.mg X.base (L2.CX X.prog X.w) k f fd ps (spD X.K X.mg n F)) (hr : Room k X.A) (hg : Gl X x) (hm : X.mg x = some (.ref f)) (hk : PySem.W.keepIn X.K (.ref f) = true) (hb : Binds X.K fd ps []) (tk : Takes X W)
    (ha : DA X W (e :: es) fs) (hdb : (x == ("__debug__" : Str)) = false := by decide) (he : starEach (e :: es) X.env = (false, eval e X.env) :: starEach es X.env := by rfl) (hpl : (backTo pos (starEach es X.env)).any (·.1) = false := by rfl) :
    DE X W (.Call (.Name x p) (e :: es) [] pos) (eCall F n fs) := by
  refine imp_pe (pe_callS G hr hg hm hk hb (fun σ => passAt tk σ) ha hdb he hpl) fun σ H Q ⟨hid, own, ρ, hS, h⟩ => ⟨hid, own, ρ, hS, ?_⟩
  unfold eCall at h
  cases q : fs ρ with
  | exc c => rw [q] at h; exact h
  | bad => rw [q] at h; exact h
  | ok ys =>
    rw [q] at h
    intro H1 vs s1 d1 r1
    have S1 := hS.mono s1
    have h : Post X.K hid own H (Wc X.mg W σ) (if ys.length = n then (if ys.any pkL = true then (F (ys.map (·.2))).bind (fun r => if noLE r = true then .ok r else .bad) else F (ys.map (·.2))) else .bad) Q := h
    split at h
    · rename_i hn
      split at h
      · refine ⟨hid, ys.map (·.2), fun b z => d1 b (.inl z), r1.rp, by rw [List.length_map]; exact hn, ?_⟩
        have h := Post.mono s1 h
        cases e1 : F (ys.map (·.2)) with
        | bad => rw [e1] at h; exact h
        | exc c => rw [e1] at h; exact h
        | ok r =>
          rw [e1] at h
          intro H2 v s2 r2
          have h : Post X.K hid own H1 (Wc X.mg W σ) (if noLE r = true then .ok r else .bad) Q := h
          split at h
          · rename_i nl
            refine h H2 v s2 ?_
            have oL : ∀ b, ob hid own b → ¬ ob hid noOwn b → ∃ o, H2 b = some o ∧ Ownd o := fun b z nz => by
              rcases z with z | ⟨i, z⟩
              · exact absurd (ob_no.mpr z) nz
              · obtain ⟨_, ⟨xs, z2, z3⟩, _⟩ := S1.oh i b z
                exact ⟨xs, s2 _ _ z2, z3⟩
            obtain ⟨k, d⟩ := r
            cases k with
            | cl => exact noL_rp oL d v nl r2
            | pk => exact RT.of_cl (noL_rp oL d v nl (RT.cl (by cases d <;> first | rfl | exact absurd (show false = true from nl) Bool.false_ne_true) r2))
            | fr =>
              obtain ⟨a, w1, w2, w3, m⟩ := r2
              have na : ¬ ob hid own a := fun z => d1 a z w2
              refine ⟨a, w1, w2, na, ?_⟩
              cases d with
              | lst ds =>
                obtain ⟨us, m1, m2⟩ := m
                refine ⟨us, m1, noLs_rp (fun b z nz => ?_) ds us nl m2⟩
                rcases z with z | z
                · exact oL b z fun w => nz (.inl w)
                · exact absurd (.inr z) nz
              | dct ks ds =>
                obtain ⟨us, m1, m2⟩ := m
                refine ⟨us, m1, noLs_rp (fun b z nz => ?_) ds us nl m2⟩
                rcases z with z | z
                · exact oL b z fun w => nz (.inl w)
                · exact absurd (.inr z) nz
              | obj c ns ds =>
                obtain ⟨us, m1, m2⟩ := m
                refine ⟨us, m1, noLs_rp (fun b z nz => ?_) ds us nl m2⟩
                rcases z with z | z
                · exact oL b z fun w => nz (.inl w)
                · exact absurd (.inr z) nz
              | _ => exact m.elim
          · exact h.elim
      · rename_i hp
        have ok : ys.all okE = true := by
          rw [List.all_eq_true]
          intro y hy
          have hp' : ys.any pkL = false := by simpa using hp
          rw [List.any_eq_false] at hp'
          exact pkL_ok (by simpa using hp' y hy)
        exact ⟨ob hid own, ys.map (·.2), d1, r1.clean ok, by rw [List.length_map]; exact hn, post_ob (fun c H' z => z) (Post.mono s1 h)⟩
    · exact h.elim
end
end PL
set_option Elab.async false
set_option linter.all false
set_option maxRecDepth 100000
set_option maxHeartbeats 4000000
/-! PL5: what is walked, targets, list comprehensions. -/
namespace PL
open PySem PySem.Spec L2

/-- the walk J gives ds, as long as what is seen in Hl stands; the items are seen in Hc -/
def ItOk (K : PySem.W.Frag) (J : It) (ds : List D) (Hl Hc : Hp) : Prop := ∀ (i : Nat) (H : Hp) (P : Addr → Prop), Same Hl H → Same Hc (hd H P) → (∀ b, P b → H b ≠ none) →
  (i = ds.length → J.stop i H) ∧ ∀ d, ds[i]? = some d → J.go i H ∧ ∀ x H', J.yld i H x H' → Same H H' ∧ Rp K (hd H' P) d x
abbrev IF := Ro → R (Bool × List D)
/-- where the walked thing stands -/
noncomputable def lvl (hid : Addr → Prop) (own : Own) (H : Hp) : Bool → Hp
  | true => hd H hid
  | false => hd H (ob hid own)
def PostI (K : PySem.W.Frag) (hid : Addr → Prop) (own : Own) (H : Hp) (Wx : Str → Hp → Prop) (r : R (Bool × List D)) (Rr : It → Hp → Prop) : Prop :=
  match r with
  | .ok p => ∀ H1 J, Same H H1 → ItOk K J p.2 (lvl hid own H1 p.1) (hd H1 (ob hid own)) → Rr J H1
  | .exc c => ∀ H', Same H H' → Wx c H'
  | .bad => False
def tI (K : PySem.W.Frag) (mg : Str → Option Value) (W : WX) (f : IF) : TI := fun σ H R => ∃ hid own ρ, SR K hid own H ρ σ ∧ PostI K hid own H (Wc mg W σ) (f ρ) R
abbrev DI (X : Cx) (W : WX) (tg e : Expr) (f : IF) : Prop := PI X tg e (tI X.K X.mg W f)
theorem imp_pi {X : Cx} {tg e : Expr} {t t' : TI} (h : PI X tg e t) (k : ∀ σ H Q, t' σ H Q → t σ H Q) : PI X tg e t' := ⟨fun pins s σ H R I q => h.run pins s σ H R I (k _ _ _ q)⟩
theorem or_pi {X : Cx} {tg e : Expr} {t t' : TI} (h : PI X tg e t) (h' : PI X tg e t') : PI X tg e (fun σ H R => t σ H R ∨ t' σ H R) := ⟨fun pins s σ H R I q => q.elim (h.run pins s σ H R I) (h'.run pins s σ H R I)⟩
theorem PostI.part {K : PySem.W.Frag} {hid : Addr → Prop} {own : Own} {H : Hp} {Wx : Str → Hp → Prop} {r : R Ev} {g : Ev → R (Bool × List D)} {Rr : It → Hp → Prop} {T : VK} (h : PostI K hid own H Wx (r.bind g) Rr)
    (k : ∀ e H1 v, Same H H1 → RV K hid own H H1 e.1 e.2 v → PostI K hid own H1 Wx (g e) Rr → T v H1) : Post K hid own H Wx r T := by
  cases r with
  | ok e =>
    intro H1 v s q
    refine k e H1 v s q ?_
    have h : PostI K hid own H Wx (g e) Rr := h
    cases e2 : g e with
    | ok p => rw [e2] at h; exact fun H2 J s2 i => h H2 J (s.trans s2) i
    | exc c => rw [e2] at h; exact fun H2 s2 => h H2 (s.trans s2)
    | bad => rw [e2] at h; exact h
  | exc c => exact h
  | bad => exact h
section
variable {K : PySem.W.Frag}
theorem it_list {a : Addr} {ds : List D} {vs : List V} {Hl Hc : Hp} (hl : SqL K Hl a vs) (hc : RpL K Hc ds vs) (uniq : ∀ (H : Hp) (xs : List V), Same Hl H → SqL K H a xs → xs = vs) : ItOk K (Itl K a) ds Hl Hc := fun i H P sl sc dom =>
  ⟨fun e => ⟨vs, sl.seq hl, by rw [hc.len, e]; exact Nat.le_refl _⟩, fun d hd => by
    obtain ⟨v, e1, e2⟩ := hc.get hd
    refine ⟨⟨vs, v, sl.seq hl, e1⟩, fun x H' ⟨eH, y⟩ => ?_⟩
    subst eH
    have e3 := y vs (sl.seq hl)
    rw [e1] at e3
    cases e3
    exact ⟨Same.refl _, Rp.mono sc _ _ e2⟩⟩
end
theorem Rd.uniq {H : Hp} {a : Addr} {xs ys : List V} (h : Rd H a (.lst xs)) (h' : Rd H a (.lst ys)) : xs = ys := by
  rcases h with h | ⟨o, h⟩ <;> rcases h' with h' | ⟨o', h'⟩ <;> rw [h] at h' <;> cases h' <;> rfl
def iVal (fa : EF) : IF := fun ρ => (fa ρ).bind fun x => match x.2 with
  | .lst ds => .ok (decide (x.1 = .pk), ds)
  | .rol ds => .ok (false, ds)
  | .tup ds => .ok (false, ds)
  | .str z => .ok (false, z.map fun c => D.str [c])
  | _ => .bad
theorem it_list2 {K : PySem.W.Frag} {a : Addr} {ds : List D} {vs : List V} {Hl Hc : Hp} (hl : SqL K Hl a vs) (hc : RpL K Hc ds vs) : ItOk K (Itl K a) ds Hl Hc := fun i H P sl sc dom =>
  ⟨fun e => ⟨vs, sl.seq hl, by rw [hc.len, e]; exact Nat.le_refl _⟩, fun d hd => by
    obtain ⟨v, e1, e2⟩ := hc.get hd
    refine ⟨⟨vs, v, sl.seq hl, e1⟩, fun x H' ⟨eH, y⟩ => ?_⟩
    subst eH
    have e3 := y vs (sl.seq hl)
    rw [e1] at e3
    cases e3
    exact ⟨Same.refl _, Rp.mono sc _ _ e2⟩⟩
theorem it_tup2 {K : PySem.W.Frag} {a : Addr} {ds : List D} {vs : List V} {Hl Hc : Hp} (hl : SqT K Hl a vs) (hc : RpL K Hc ds vs) : ItOk K (Itt K a) ds Hl Hc := fun i H P sl sc dom =>
  ⟨fun e => ⟨vs, same_seqT sl hl, by rw [hc.len, e]; exact Nat.le_refl _⟩, fun d hd => by
    obtain ⟨v, e1, e2⟩ := hc.get hd
    refine ⟨⟨vs, v, same_seqT sl hl, e1⟩, fun x H' ⟨eH, y⟩ => ?_⟩
    subst eH
    have e3 := y vs (same_seqT sl hl)
    rw [e1] at e3
    cases e3
    exact ⟨Same.refl _, Rp.mono sc _ _ e2⟩⟩
theorem it_str {K : PySem.W.Frag} {z : List Nat} {Hl Hc : Hp} : ItOk K (Its (S z)) (z.map fun c => D.str [c]) Hl Hc := fun i H P sl sc dom =>
  ⟨fun e => by
    show (S z).cps.size ≤ i
    rw [e, List.length_map]
    simp [S], fun d hd => by
    have hi : i < z.length := by have := (List.getElem?_eq_some_iff.mp hd).1; rwa [List.length_map] at this
    refine ⟨by show i < (S z).cps.size; simpa [S] using hi, fun x H' ⟨eH, c, e1, e2⟩ => ?_⟩
    subst eH
    refine ⟨Same.refl _, ?_⟩
    rw [List.getElem?_map] at hd
    have e3 : z[i]? = some c := by simpa [S] using e1
    rw [e3] at hd
    cases hd
    exact e2⟩
theorem it_range {K : PySem.W.Frag} {lo : Int} {n : Nat} {Hl Hc : Hp} : ItOk K (Itr lo n) ((List.range n).map fun k : Nat => D.int (lo + k)) Hl Hc := fun i H P sl sc dom =>
  ⟨fun e => by
    show n ≤ i
    rw [e, List.length_map, List.length_range]; exact Nat.le_refl _, fun d hd => by
    have hi : i < n := by have := (List.getElem?_eq_some_iff.mp hd).1; rwa [List.length_map, List.length_range] at this
    refine ⟨hi, fun x H' ⟨eH, ex⟩ => ?_⟩
    subst eH
    refine ⟨Same.refl _, ?_⟩
    rw [List.getElem?_map, List.getElem?_range hi] at hd
    cases hd
    exact ex⟩
/-- the pairs of enumerate -/
def enumD (ds : List D) : List D := ds.zipIdx.map fun p => D.tup [.int (p.2 : Nat), p.1]
theorem enumD_get {ds : List D} {i : Nat} {d : D} (h : (enumD ds)[i]? = some d) : ∃ y, ds[i]? = some y ∧ d = D.tup [.int (i : Nat), y] := by
  unfold enumD at h
  rw [List.getElem?_map, List.getElem?_zipIdx] at h
  cases e : ds[i]? with
  | none => rw [e] at h; cases h
  | some y =>
    rw [e] at h
    refine ⟨y, rfl, ?_⟩
    have := Option.some.inj h
    rw [← this]
    simp
theorem enumD_len (ds : List D) : (enumD ds).length = ds.length := by simp [enumD]
theorem pair_rp {K : PySem.W.Frag} {H : Hp} {P : Addr → Prop} {T : Addr} {i : Int} {y : D} {x : V} (nT : H T = none) (dom : ∀ b, P b → H b ≠ none) (r : Rp K (hd H P) y x) : Rp K (hd (upd H T (.tup [.int i, x])) P) (.tup [.int i, y]) (.ref T) :=
  ⟨T, _, rfl, .inl (.inl (hd_some.mpr ⟨no_dom dom nT, upd_same⟩)), _, _, rfl, rfl, _, _, rfl, Rp.mono (hd_same (sameUpd nT)) _ _ r, rfl⟩
theorem it_enum {K : PySem.W.Frag} {a : Addr} {ds : List D} {vs : List V} {Hl Hc : Hp} (hl : SqL K Hl a vs) (hc : RpL K Hc ds vs) : ItOk K (Ite K a) (enumD ds) Hl Hc := fun i H P sl sc dom =>
  ⟨fun e => ⟨vs, sl.seq hl, by rw [hc.len, e, enumD_len]; exact Nat.le_refl _⟩, fun d hd => by
    obtain ⟨y, ey, ed⟩ := enumD_get hd
    subst ed
    obtain ⟨v, e1, e2⟩ := hc.get ey
    refine ⟨⟨vs, v, sl.seq hl, e1⟩, fun x H' ⟨T, x', ex, nT, eH, q⟩ => ?_⟩
    subst ex eH
    have e3 := q vs (sl.seq hl)
    rw [e1] at e3
    cases e3
    exact ⟨sameUpd nT, pair_rp nT dom (Rp.mono sc _ _ e2)⟩⟩
/-- enumerate of a text -/
def ItS (z : Str) : It := ⟨fun i _ => i < z.cps.size, fun i H v H' => ∃ T c, v = .ref T ∧ H T = none ∧ H' = upd H T (.tup [.int (i : Nat), .str ⟨#[c]⟩]) ∧ z.cps[i]? = some c, fun i _ => i = z.cps.size⟩
theorem it_enumS {K : PySem.W.Frag} {z : List Nat} {Hl Hc : Hp} : ItOk K (ItS (S z)) (enumD (z.map fun c => D.str [c])) Hl Hc := fun i H P sl sc dom =>
  ⟨fun e => by
    show i = (S z).cps.size
    rw [e, enumD_len, List.length_map]
    simp [S], fun d hd => by
    obtain ⟨y, ey, ed⟩ := enumD_get hd
    subst ed
    have hi : i < z.length := by have := (List.getElem?_eq_some_iff.mp ey).1; rwa [List.length_map] at this
    refine ⟨by show i < (S z).cps.size; simpa [S] using hi, fun x H' ⟨T, c, ex, nT, eH, ec⟩ => ?_⟩
    subst ex eH
    rw [List.getElem?_map] at ey
    have e3 : z[i]? = some c := by simpa [S] using ec
    rw [e3] at ey
    cases ey
    exact ⟨sameUpd nT, pair_rp nT dom rfl⟩⟩
theorem turn_enumS {P : Program} {w : World} {K : PySem.W.Frag} {elts : List Expr} {kk : Nat} {tpos : Pos} (e it : Addr) (z : Str) (t : Tok) :
    Turn P w K (.Tuple elts kk tpos) (ItS z) [e, it] e (fun i h => (∃ old, IsEnum h e it ((i : Nat) : Int) old) ∧ h.IsStrIter it (strIterType z) z t i ∧ e ≠ it) where
  mem := List.mem_cons_self
  obj := by
    rintro i h ⟨⟨old, he⟩, ⟨o, ho, hc, hdt⟩, _⟩ b hb
    rcases List.mem_cons.mp hb with q | q
    · rw [q]; exact ⟨_, he, fun v r => nomatch r⟩
    · rw [List.mem_singleton.mp q]; exact ⟨o, ho, fun v r => by rw [hdt] at r; cases r⟩
  keep := by
    rintro i h h' ⟨⟨old, he⟩, ⟨o, ho, r⟩, hne⟩ k
    exact ⟨⟨old, k e (by simp) _ he⟩, ⟨o, k it (by simp) _ ho, r⟩, hne⟩
  item := by
    rintro X rfl rfl rfl hc i pins s σ H E I hf ⟨⟨old, he⟩, hit, hne⟩ hg
    have Dr := Draws.text (prog := X.prog) (w := X.w) (A := X.A.in1) (show X.A.in1.handled = none from I.ok.hd hc) it z t
    have le : e < s.heap.objs.size := Heap.lt_size he
    have li : it < s.heap.objs.size := by obtain ⟨_, q, _⟩ := hit; exact Heap.lt_size q
    refine wpAny_pyNext_enum_itemD Dr he hit hg hne (by simpa using hne) fun x h' tk hx ho hit' hT hsz hk => ?_
    obtain ⟨c, u, hcx, rfl⟩ := hx
    refine ⟨_, rfl, wpAny_letOwnedTupleGo_enum (s := { s with heap := h', toks := tk + 1 }) ho fun h'' he' sb => ?_⟩
    have hT2 := (sb.2 _ (Nat.ne_of_gt le)).trans hT
    have new : ObjOk X.prog X.w (upd H s.heap.objs.size (.tup [.int (i : Nat), .str ⟨#[c]⟩])) h'' s.heap.objs.size (.tup [.int (i : Nat), .str ⟨#[c]⟩]) :=
      ⟨by rw [sizeLine_eq]; exact (by decide : 2 ≤ 16777216), _, .cons ⟨_, rfl⟩ (.cons ⟨_, rfl⟩ .nil), ⟨_, hT2, rfl, _, rfl⟩⟩
    have I1 := I.turnedNew (t' := tk + 1) (ch := [e, it]) (fun b o hb q => (sb.2 b fun r => hb (by simp [r])).trans (hk b o (fun r => hb (by simp [r])) (fun r => hb (by simp [r])) q)) hf (Nat.le_refl _) new
    refine ⟨.ref s.heap.objs.size, _, I1, rfl, ⟨_, c, rfl, I.hok.fresh (Nat.le_refl _), rfl, hcx⟩, ⟨⟨_, by rw [Int.natCast_succ]; exact he'⟩, ?_, hne⟩, fun b hb => ?_⟩
    · obtain ⟨o, q, r⟩ := hit'
      exact ⟨o, (sb.2 it (Ne.symm hne)).trans q, r⟩
    · rw [upd_ne (Nat.ne_of_lt ?_)]
      · exact (hf b hb).1
      · rcases List.mem_cons.mp hb with q | q
        · rw [q]; exact le
        · rw [List.mem_singleton.mp q]; exact li
  done := by
    rintro X rfl rfl rfl hc i pins s σ H E I hf ⟨⟨old, he⟩, hit, hne⟩ hg
    have Dr := Draws.text (prog := X.prog) (w := X.w) (A := X.A.in1) (show X.A.in1.handled = none from I.ok.hd hc) it z t
    obtain ⟨f0, f1, f2, f3, f4, f5⟩ := hf it (by simp)
    have hg : i = z.cps.size := hg
    rw [hg] at hit
    exact wpAny_pyNext_enum_endD Dr he hit fun h' eb => ⟨rfl, I.turned (t' := s.toks) (fun b o hb q => eb b o hb q) f0 f1 f3 f4 f5⟩
  self := by
    rintro A i s Q E ⟨⟨_, he⟩, _⟩ h
    exact wpAny_pyIter_enum he h
def iEnS (ta : TA) : TI := fun σ H R => ta σ H fun vs H1 => ∃ z, vs = [.str z] ∧ R (ItS z) H1
theorem pi_enumS {X : Cx} {e : Expr} {ta : TA} {p pos tpos : Pos} {elts : List Expr} {kk : Nat} (hg : Gl X "enumerate") (hm : X.mg "enumerate" = none) (ha : PA X [e] ta) (hs : starEach [e] X.env = [(false, eval e X.env)] := by rfl) :
    PI X (.Tuple elts kk tpos) (.Call (.Name "enumerate" p) [e] [] pos) (iEnS ta) := by
  refine ⟨fun pins s σ H R I h => PyProof.Rows.Call_ (ld_blt I hg hm PyProof.Rows.boot_enumerate (PyProof.Rows.callWith_type1 (thn (ha.run pos pins s σ H _ I h) fun us s1 hu => ?_) hs rfl))⟩
  obtain ⟨vs, H1, I1, r1, z, ez, q⟩ := hu
  subst ez
  obtain ⟨u, eu, t, et⟩ := vals1 r1
  subst eu et
  refine call_enumerate_str fun h' he hit hsz hk => wpAny_pyIter_enum he ?_
  have I2 : Inv X pins σ H1 { s1 with heap := h' } := I1.kept (t' := s1.toks) hk
  refine ⟨s1.heap.objs.size + 1, [s1.heap.objs.size + 1, s1.heap.objs.size], _, _, H1, rfl, I2, turn_enumS _ _ z t, ⟨⟨_, he⟩, hit, Nat.succ_ne_self _⟩, fun b hb => ?_, q⟩
  have le : s1.heap.objs.size ≤ b := by
    rcases List.mem_cons.mp hb with r | r
    · rw [r]; exact Nat.le_succ _
    · rw [List.mem_singleton.mp r]; exact Nat.le_refl _
  exact I1.fpOk le (I1.hok.fresh le)
section
variable {X : Cx} {W : WX} {tg e e2 : Expr} {fa fb : EF} {p pos : Pos}
theorem lvl_of {K : PySem.W.Frag} {hid : Addr → Prop} {own : Own} {H H1 : Hp} {k : Kd} {ds : List D} {v : V} (h : RV K hid own H H1 k (.lst ds) v) : ∃ a vs, v = .ref a ∧ lvl hid own H1 (decide (k = .pk)) a = some (.lst vs) ∧ RpL K (hd H1 (ob hid own)) ds vs := by
  cases k with
  | pk => exact h
  | cl => exact h
  | fr =>
    obtain ⟨a, e1, e2, e3, vs, e4, e5⟩ := h
    exact ⟨a, vs, e1, hd_some.mpr ⟨e3, e4⟩, RpL.mono (hd_mono fun b o q n => ⟨q, fun z => n (.inl z)⟩) _ _ e5⟩
theorem di_val (ha : DE X W e fa) : DI X W tg e (iVal fa) := by
  refine imp_pi (or_pi (pi_list ha) (or_pi (pi_tup ha) (pi_str ha))) fun σ H Rr ⟨hid, own, ρ, hS, h⟩ => ?_
  unfold iVal at h
  cases e1 : fa ρ with
  | exc c => rw [e1] at h; exact .inl ⟨hid, own, ρ, hS, by rw [e1]; exact h⟩
  | bad => rw [e1] at h; exact h.elim
  | ok x =>
    rw [e1] at h
    obtain ⟨k, d⟩ := x
    cases d with
    | lst ds =>
      refine .inl ⟨hid, own, ρ, hS, ?_⟩
      rw [e1]
      intro H1 v s1 r1
      obtain ⟨a, vs, q1, q2, q3⟩ := lvl_of r1
      exact ⟨a, q1, ⟨vs, by cases k <;> exact SqL.of (hd_le _ _ q2)⟩, h H1 _ s1 (it_list2 (SqL.of q2) q3)⟩
    | rol ds =>
      refine .inl ⟨hid, own, ρ, hS, ?_⟩
      rw [e1]
      intro H1 v s1 r1
      obtain ⟨a, vs, q1, q2, q3⟩ := r1.rt
      exact ⟨a, q1, ⟨vs, hd_le.seq q2⟩, h H1 _ s1 (it_list2 q2 q3)⟩
    | tup ds =>
      refine .inr (.inl ⟨hid, own, ρ, hS, ?_⟩)
      rw [e1]
      intro H1 v s1 r1
      obtain ⟨a, vs, q1, q2, q3⟩ := r1.rt
      exact ⟨a, q1, ⟨vs, same_seqT hd_le q2⟩, h H1 _ s1 (it_tup2 q2 q3)⟩
    | str z =>
      refine .inr (.inr ⟨hid, own, ρ, hS, ?_⟩)
      rw [e1]
      intro H1 v s1 r1
      exact ⟨S z, r1.rt, h H1 _ s1 it_str⟩
    | _ => exact h.elim
def iRng (fa : EF) : IF := fun ρ => (fa ρ).bind fun x => match x.2 with
  | .int j => if -(2 ^ 62) ≤ j ∧ j < 2 ^ 62 then .ok (false, (List.range j.toNat).map fun k : Nat => D.int (0 + k)) else .bad
  | _ => .bad
theorem di_rng (hg : Gl X "range") (hm : X.mg "range" = none) (ha : DE X W e fa) (hs : starEach [e] X.env = [(false, eval e X.env)] := by rfl) : DI X W tg (.Call (.Name "range" p) [e] [] pos) (iRng fa) := by
  refine imp_pi (pi_range1 hg hm (pa_cons ha pa_nil hs) hs) fun σ H Rr ⟨hid, own, ρ, hS, h⟩ => ⟨hid, own, ρ, hS, PostI.part h fun x H1 v s1 r1 h1 => ?_⟩
  obtain ⟨k, d⟩ := x
  cases d with
  | int j =>
    have h1 : PostI X.K hid own H1 (Wc X.mg W σ) (if -(2 ^ 62) ≤ j ∧ j < 2 ^ 62 then .ok (false, (List.range j.toNat).map fun k : Nat => D.int (0 + k)) else .bad) Rr := h1
    split at h1
    · rename_i c
      exact ⟨j, by rw [show v = _ from r1.rt], c.1, c.2, h1 H1 _ (Same.refl _) it_range⟩
    · exact h1.elim
  | _ => exact h1.elim
def iRng2 (fa fb : EF) : IF := fun ρ => (fa ρ).bind fun x => (fb ρ).bind fun y => match x.2, y.2 with
  | .int i, .int j => if (-(2 ^ 62) ≤ i ∧ i < 2 ^ 62) ∧ -(2 ^ 62) ≤ j ∧ j < 2 ^ 62 then .ok (false, (List.range (j - i).toNat).map fun k : Nat => D.int (i + k)) else .bad
  | _, _ => .bad
theorem di_rng2 (hg : Gl X "range") (hm : X.mg "range" = none) (ha : DE X W e fa) (hb : DE X W e2 fb) (hs : starEach [e, e2] X.env = [(false, eval e X.env), (false, eval e2 X.env)] := by rfl) (hs2 : starEach [e2] X.env = [(false, eval e2 X.env)] := by rfl) : DI X W tg (.Call (.Name "range" p) [e, e2] [] pos) (iRng2 fa fb) := by
  refine imp_pi (pi_range2 hg hm (pa_cons ha (pa_cons hb pa_nil hs2) (by rw [hs, hs2])) hs hs2) fun σ H Rr ⟨hid, own, ρ, hS, h⟩ => ⟨hid, own, ρ, hS, PostI.part h fun x H1 v s1 r1 h1 => ⟨hid, own, ρ, hS.mono s1, PostI.part h1 fun y H2 u s2 r2 h2 => ?_⟩⟩
  obtain ⟨k, d⟩ := x
  obtain ⟨k', d'⟩ := y
  cases d with
  | int i =>
    cases d' with
    | int j =>
      have h2 : PostI X.K hid own H2 (Wc X.mg W σ) (if (-(2 ^ 62) ≤ i ∧ i < 2 ^ 62) ∧ -(2 ^ 62) ≤ j ∧ j < 2 ^ 62 then .ok (false, (List.range (j - i).toNat).map fun k : Nat => D.int (i + k)) else .bad) Rr := h2
      split at h2
      · rename_i c
        exact ⟨i, j, by rw [show v = _ from r1.rt, show u = _ from r2.rt], ⟨c.1.1, c.1.2, c.2.1, c.2.2⟩, h2 H2 _ (Same.refl _) it_range⟩
      · exact h2.elim
    | _ => exact h2.elim
  | _ => cases d' <;> exact h2.elim
def iEnum' (fa : EF) : IF := fun ρ => (fa ρ).bind fun x => match x.2 with
  | .lst ds => .ok (decide (x.1 = .pk), enumD ds)
  | .str z => .ok (false, enumD (z.map fun c => D.str [c]))
  | _ => .bad
theorem di_enum {elts : List Expr} {kk : Nat} {tpos : Pos} (hg : Gl X "enumerate") (hm : X.mg "enumerate" = none) (ha : DE X W e fa) (hs : starEach [e] X.env = [(false, eval e X.env)] := by rfl) : DI X W (.Tuple elts kk tpos) (.Call (.Name "enumerate" p) [e] [] pos) (iEnum' fa) := by
  refine imp_pi (or_pi (pi_enum hg hm (pa_cons ha pa_nil hs) hs) (pi_enumS hg hm (pa_cons ha pa_nil hs) hs)) fun σ H Rr ⟨hid, own, ρ, hS, h⟩ => ?_
  unfold iEnum' at h
  cases e1 : fa ρ with
  | exc c => rw [e1] at h; exact .inl ⟨hid, own, ρ, hS, by rw [e1]; exact h⟩
  | bad => rw [e1] at h; exact h.elim
  | ok x =>
    rw [e1] at h
    obtain ⟨k, d⟩ := x
    cases d with
    | lst ds =>
      refine .inl ⟨hid, own, ρ, hS, ?_⟩
      rw [e1]
      intro H1 v s1 r1
      obtain ⟨a, vs, q1, q2, q3⟩ := lvl_of r1
      exact ⟨a, vs, by rw [q1], by cases k <;> exact SqL.of (hd_le _ _ q2), h H1 _ s1 (it_enum (SqL.of q2) q3)⟩
    | str z =>
      refine .inr ⟨hid, own, ρ, hS, ?_⟩
      rw [e1]
      intro H1 v s1 r1
      exact ⟨S z, by rw [show v = _ from r1.rt], h H1 _ s1 it_enumS⟩
    | _ => exact h.elim
end

/-! ### targets -/
abbrev GF := D → Ro → Option Ro
/-- slots outside of ss stay -/
def tG (K : PySem.W.Frag) (ss : List Nat) (g : GF) : TG := fun v σ H Q => ∃ hid own ρ d, SR K hid own H ρ σ ∧ Rp K (hd H (ob hid own)) d v ∧ match g d ρ with
  | some ρ' => ∀ own' σ', SR K hid own' H ρ' σ' → (∀ i a, own' i = some a → own i = some a) → (∀ i a, own i = some a → i ∉ ss → own' i = some a) → (∀ j, j ∉ ss → σ'[j]? = σ[j]?) → σ'.length = σ.length → Q σ' H
  | none => False
def tGs (K : PySem.W.Frag) (ss : List Nat) (g : List D → Ro → Option Ro) : TGs := fun vs σ H Q => ∃ hid own ρ ds, SR K hid own H ρ σ ∧ RpL K (hd H (ob hid own)) ds vs ∧ match g ds ρ with
  | some ρ' => ∀ own' σ', SR K hid own' H ρ' σ' → (∀ i a, own' i = some a → own i = some a) → (∀ i a, own i = some a → i ∉ ss → own' i = some a) → (∀ j, j ∉ ss → σ'[j]? = σ[j]?) → σ'.length = σ.length → Q σ' H
  | none => False
abbrev DG (X : Cx) (tg : Expr) (ss : List Nat) (g : GF) : Prop := PG X tg (tG X.K ss g)
abbrev DGs (X : Cx) (tg : List Expr) (ss : List Nat) (g : List D → Ro → Option Ro) : Prop := PGs X tg (tGs X.K ss g)
theorem imp_pg {X : Cx} {tg : Expr} {t t' : TG} (h : PG X tg t) (k : ∀ v σ H Q, t' v σ H Q → t v σ H Q) : PG X tg t' := ⟨fun pins s σ H v u Q I r q => h.run pins s σ H v u Q I r (k _ _ _ _ q)⟩
theorem imp_pgs {X : Cx} {tg : List Expr} {t t' : TGs} (h : PGs X tg t) (k : ∀ v σ H Q, t' v σ H Q → t v σ H Q) : PGs X tg t' := ⟨fun pins s σ H v u Q I r q => h.run pins s σ H v u Q I r (k _ _ _ _ q)⟩
def gNm (i : Nat) : GF := fun d ρ => if i < ρ.length then some (ρ.set i (some (false, d))) else none
open Classical in
noncomputable def unown (own : Own) (i : Nat) : Own := fun j => if j = i then none else own j
theorem unown_le {own : Own} {i j : Nat} {a : Addr} (h : unown own i j = some a) : own j = some a ∧ j ≠ i := by
  unfold unown at h
  by_cases c : j = i
  · rw [if_pos c] at h; cases h
  · rw [if_neg c] at h; exact ⟨h, c⟩
theorem unown_ne {own : Own} {i j : Nat} (h : j ≠ i) : unown own i j = own j := by unfold unown; rw [if_neg h]
theorem ob_unown {hid : Addr → Prop} {own : Own} {i : Nat} {b : Addr} (h : ob hid (unown own i) b) : ob hid own b := h.elim .inl fun ⟨j, e⟩ => .inr ⟨j, (unown_le e).1⟩
theorem SR.setV {K : PySem.W.Frag} {hid : Addr → Prop} {own : Own} {H : Hp} {ρ : Ro} {σ : L2.St} (h : SR K hid own H ρ σ) {i : Nat} {d : D} {v : V} (r : Rp K (hd H (ob hid own)) d v) : SR K hid (unown own i) H (ρ.set i (some (false, d))) (σ.set i (some v)) := by
  have mono : Same (hd H (ob hid own)) (hd H (ob hid (unown own i))) := hd_mono fun b o e n => ⟨e, fun z => n (ob_unown z)⟩
  refine ⟨by rw [List.length_set, List.length_set]; exact h.len, fun j d' e => ?_, fun j d' e => ?_, fun j k a e1 e2 => h.inj j k a (unown_le e1).1 (unown_le e2).1, fun j a e => ?_, h.hin⟩
  · by_cases c : i = j
    · subst c
      have hl : i < ρ.length := by
        have := (List.getElem?_eq_some_iff.mp e).1
        rwa [List.length_set] at this
      rw [List.getElem?_set_self hl] at e
      cases e
      exact ⟨v, by rw [List.getElem?_set_self (by rw [← h.len]; exact hl)], Rp.mono mono _ _ r⟩
    · rw [List.getElem?_set_ne c] at e ⊢
      obtain ⟨u, e1, e2⟩ := h.val j d' e
      exact ⟨u, e1, Rp.mono mono _ _ e2⟩
  · by_cases c : i = j
    · subst c
      have hl : i < ρ.length := by
        have := (List.getElem?_eq_some_iff.mp e).1
        rwa [List.length_set] at this
      rw [List.getElem?_set_self hl] at e
      cases e
    · rw [List.getElem?_set_ne c] at e ⊢
      obtain ⟨a, e1, e2, e3⟩ := h.ow j d' e
      exact ⟨a, by rw [unown_ne (Ne.symm c)]; exact e1, e2, e3.mono mono⟩
  · obtain ⟨e1, c⟩ := unown_le e
    obtain ⟨h1, h2, d', h3⟩ := h.oh j a e1
    exact ⟨h1, h2, d', by rw [List.getElem?_set_ne (Ne.symm c)]; exact h3⟩
section
variable {X : Cx} {pos : Pos}
theorem dg_name {x : Str} (i : Nat) (hN : X.N.Nodup) (hi : X.N[i]? = some x) (hx : Loc X.env.scope x) (hf : X.fn x = true ∨ X.env.scope.names.lookup x = some .local) : DG X (.Name x pos) [i] (gNm i) := by
  refine imp_pg (pg_name hN hi hx hf) fun v σ H Q ⟨hid, own, ρ, d, hS, r, h⟩ => ?_
  unfold gNm at h
  by_cases c : i < ρ.length
  · rw [if_pos c] at h
    refine h (unown own i) _ (hS.setV r) (fun j a e => (unown_le e).1) (fun j a e hj => by rw [unown_ne (fun z => hj (by simp [z]))]; exact e) (fun j hj => ?_) (by rw [List.length_set])
    rw [List.getElem?_set_ne (fun z => hj (by simp [z]))]
  · rw [if_neg c] at h; exact h.elim
def gsNil : List D → Ro → Option Ro := fun ds ρ => match ds with | [] => some ρ | _ => none
def gsCons (g : GF) (gs : List D → Ro → Option Ro) : List D → Ro → Option Ro := fun ds ρ => match ds with
  | d :: r => (g d ρ).bind fun ρ' => gs r ρ'
  | [] => none
theorem dgs_nil : DGs X [] [] gsNil := by
  refine imp_pgs pgs_nil fun vs σ H Q ⟨hid, own, ρ, ds, hS, r, h⟩ => ?_
  cases ds with
  | nil => exact ⟨r, h own σ hS (fun _ _ e => e) (fun _ _ e _ => e) (fun _ _ => rfl) rfl⟩
  | cons d ds => exact h.elim
theorem dgs_cons {e : Expr} {es : List Expr} {ss ss' : List Nat} {g : GF} {gs : List D → Ro → Option Ro} (h1 : DG X e ss g) (h2 : DGs X es ss' gs) (hs : (assignEach (e :: es) X.env).map (·.2) = assign e X.env :: (assignEach es X.env).map (·.2) := by rfl) : DGs X (e :: es) (ss ++ ss') (gsCons g gs) := by
  refine imp_pgs (pgs_cons h1 h2 hs) fun vs σ H Q ⟨hid, own, ρ, ds, hS, r, h⟩ => ?_
  cases ds with
  | nil => exact h.elim
  | cons d ds =>
    obtain ⟨v, vr, e1, r1, r2⟩ := r
    refine ⟨v, vr, e1, hid, own, ρ, d, hS, r1, ?_⟩
    have h : match (g d ρ).bind (fun ρ' => gs ds ρ') with
      | some ρ' => ∀ own' σ', SR X.K hid own' H ρ' σ' → (∀ i a, own' i = some a → own i = some a) → (∀ i a, own i = some a → i ∉ ss ++ ss' → own' i = some a) → (∀ j, j ∉ ss ++ ss' → σ'[j]? = σ[j]?) → σ'.length = σ.length → Q σ' H
      | none => False := h
    cases e2 : g d ρ with
    | none => rw [e2] at h; exact h.elim
    | some ρ1 =>
      rw [e2] at h
      intro own1 σ1 S1 le1 ge1 k1 l1
      have mono : Same (hd H (ob hid own)) (hd H (ob hid own1)) := hd_mono fun b o e n => ⟨e, fun z => n (z.elim .inl fun ⟨i, q⟩ => .inr ⟨i, le1 i b q⟩)⟩
      refine ⟨hid, own1, ρ1, ds, S1, RpL.mono mono _ _ r2, ?_⟩
      have h : match gs ds ρ1 with
        | some ρ' => ∀ own' σ', SR X.K hid own' H ρ' σ' → (∀ i a, own' i = some a → own i = some a) → (∀ i a, own i = some a → i ∉ ss ++ ss' → own' i = some a) → (∀ j, j ∉ ss ++ ss' → σ'[j]? = σ[j]?) → σ'.length = σ.length → Q σ' H
        | none => False := h
      cases e3 : gs ds ρ1 with
      | none => rw [e3] at h; exact h.elim
      | some ρ2 =>
        rw [e3] at h
        intro own2 σ2 S2 le2 ge2 k2 l2
        exact h own2 σ2 S2 (fun i a e => le1 i a (le2 i a e)) (fun i a e hj => ge2 i a (ge1 i a e fun z => hj (List.mem_append_left _ z)) fun z => hj (List.mem_append_right _ z)) (fun j hj => (k2 j fun z => hj (List.mem_append_right _ z)).trans (k1 j fun z => hj (List.mem_append_left _ z))) (l2.trans l1)
def gTp (n : Nat) (gs : List D → Ro → Option Ro) : GF := fun d ρ => match d with
  | .tup ds => if ds.length = n then gs ds ρ else none
  | _ => none
theorem dg_tup {es : List Expr} {k : Nat} {ss : List Nat} {gs : List D → Ro → Option Ro} {n : Nat} (hc : X.calm = true) (h : DGs X es ss gs) (hn : (assignEach es X.env).length = n := by rfl) (hst : (assignEach es X.env).findIdx? (·.1) = none := by rfl) : DG X (.Tuple es k pos) ss (gTp n gs) := by
  refine imp_pg (pg_tup hc h hn hst) fun v σ H Q ⟨hid, own, ρ, d, hS, r, h⟩ => ?_
  cases d with
  | tup ds =>
    obtain ⟨a, vs, e1, e2, e3⟩ := r
    have h : match (if ds.length = n then gs ds ρ else none) with
      | some ρ' => ∀ own' σ', SR X.K hid own' H ρ' σ' → (∀ i a, own' i = some a → own i = some a) → (∀ i a, own i = some a → i ∉ ss → own' i = some a) → (∀ j, j ∉ ss → σ'[j]? = σ[j]?) → σ'.length = σ.length → Q σ' H
      | none => False := h
    by_cases c : ds.length = n
    · rw [if_pos c] at h
      exact ⟨a, vs, e1, same_seqT hd_le e2, by rw [e3.len]; exact c, hid, own, ρ, ds, hS, e3, h⟩
    · rw [if_neg c] at h; exact h.elim
  | _ => exact h.elim
end
end PL
set_option Elab.async false
set_option linter.all false
set_option maxRecDepth 100000
set_option maxHeartbeats 4000000
/-! PL6: list comprehensions, statements. -/
namespace PL
open PySem PySem.Spec L2

/-! ### a block's slots -/
def wipeR (ρ : Ro) : List Nat → Ro
  | [] => ρ
  | v :: vs => (wipeR ρ vs).set v none
theorem wipeR_len (ρ : Ro) : ∀ vs : List Nat, (wipeR ρ vs).length = ρ.length
  | [] => rfl
  | v :: vs => by unfold wipeR; rw [List.length_set]; exact wipeR_len ρ vs
theorem wipeR_out {ρ : Ro} {i : Nat} : ∀ {vs : List Nat}, i ∉ vs → (wipeR ρ vs)[i]? = ρ[i]?
  | [], _ => rfl
  | v :: vs, h => by
    unfold wipeR
    rw [List.getElem?_set_ne fun e => h (by rw [e]; exact List.mem_cons_self)]
    exact wipeR_out fun m => h (List.mem_cons_of_mem _ m)
theorem wipeR_in {ρ : Ro} {i : Nat} {x : Bool × D} : ∀ {vs : List Nat}, (wipeR ρ vs)[i]? = some (some x) → i ∉ vs ∧ ρ[i]? = some (some x)
  | [], h => ⟨List.not_mem_nil, h⟩
  | v :: vs, h => by
    unfold wipeR at h
    by_cases c : v = i
    · subst c
      by_cases hl : v < (wipeR ρ vs).length
      · rw [List.getElem?_set_self hl] at h; cases h
      · rw [List.getElem?_eq_none (by rw [List.length_set]; omega)] at h; cases h
    · rw [List.getElem?_set_ne c] at h
      obtain ⟨h1, h2⟩ := wipeR_in h
      exact ⟨fun m => (List.mem_cons.mp m).elim (fun z => c z.symm) h1, h2⟩
theorem wipe_out' {σ : L2.St} {i : Nat} {vs : List Nat} (h : i ∉ vs) : (wipe σ vs)[i]? = σ[i]? := wipe_out h
theorem wipe_eq {σ σ' : L2.St} (hl : σ'.length = σ.length) : ∀ {vs : List Nat}, (∀ j, j ∉ vs → σ'[j]? = σ[j]?) → wipe σ' vs = wipe σ vs := fun {vs} h => by
  refine List.ext_getElem? fun j => ?_
  by_cases c : j ∈ vs
  · have k : ∀ (τ : L2.St) (vs : List Nat), j ∈ vs → (wipe τ vs)[j]? = if j < τ.length then some none else none := fun τ vs => by
      induction vs with
      | nil => exact fun z => absurd z List.not_mem_nil
      | cons v vs ih =>
        intro m
        unfold wipe
        by_cases e : v = j
        · subst e
          by_cases hj : v < τ.length
          · rw [List.getElem?_set_self (by rw [wipe_length]; exact hj), if_pos hj]
          · rw [List.getElem?_eq_none (by rw [List.length_set, wipe_length]; omega), if_neg hj]
        · rw [List.getElem?_set_ne e]
          exact ih ((List.mem_cons.mp m).resolve_left fun z => e z.symm)
    rw [k _ _ c, k _ _ c, hl]
  · rw [wipe_out c, wipe_out c]; exact h j c
open Classical in
noncomputable def outOf (own : Own) (vs : List Nat) : Own := fun j => if j ∈ vs then none else own j
theorem outOf_le {own : Own} {vs : List Nat} {j : Nat} {a : Addr} (h : outOf own vs j = some a) : own j = some a ∧ j ∉ vs := by
  unfold outOf at h
  by_cases c : j ∈ vs
  · rw [if_pos c] at h; cases h
  · rw [if_neg c] at h; exact ⟨h, c⟩
theorem outOf_ne {own : Own} {vs : List Nat} {j : Nat} (h : j ∉ vs) : outOf own vs j = own j := by unfold outOf; rw [if_neg h]
/-- what a block does not see: what was not seen outside, the new list, the lists of the names it hides -/
def hidB (hid : Addr → Prop) (own : Own) (vs : List Nat) (D : Addr) (b : Addr) : Prop := hid b ∨ b = D ∨ ∃ i, i ∈ vs ∧ own i = some b
theorem ob_blk {hid : Addr → Prop} {own : Own} {vs : List Nat} {D b : Addr} : ob (hidB hid own vs D) (outOf own vs) b ↔ ob hid own b ∨ b = D := by
  constructor
  · rintro ((h | h | ⟨i, _, h⟩) | ⟨i, h⟩)
    · exact .inl (.inl h)
    · exact .inr h
    · exact .inl (.inr ⟨i, h⟩)
    · exact .inl (.inr ⟨i, (outOf_le h).1⟩)
  · rintro ((h | ⟨i, h⟩) | h)
    · exact .inl (.inl h)
    · by_cases c : i ∈ vs
      · exact .inl (.inr (.inr ⟨i, c, h⟩))
      · exact .inr ⟨i, by rw [outOf_ne c]; exact h⟩
    · exact .inl (.inr (.inl h))
theorem SR.blk {K : PySem.W.Frag} {hid : Addr → Prop} {own : Own} {H1 H : Hp} {ρ : Ro} {σ : L2.St} {D : Addr} (h : SR K hid own H1 ρ σ) (nD : H1 D = none) (s : Same H1 H) (dD : H D ≠ none) (vs : List Nat) :
    SR K (hidB hid own vs D) (outOf own vs) H (wipeR ρ vs) (wipe σ vs) := by
  have mono : Same (hd H1 (ob hid own)) (hd H (ob (hidB hid own vs D) (outOf own vs))) := hd_mono fun b o e n => ⟨s _ _ e, fun z => (ob_blk.mp z).elim n fun z => by rw [z, nD] at e; cases e⟩
  refine ⟨by rw [wipeR_len, wipe_length]; exact h.len, fun i d e => ?_, fun i d e => ?_, fun i j a e1 e2 => h.inj i j a (outOf_le e1).1 (outOf_le e2).1, fun i a e => ?_, fun b hb => ?_⟩
  · obtain ⟨n, e⟩ := wipeR_in e
    obtain ⟨v, e1, e2⟩ := h.val i d e
    exact ⟨v, by rw [wipe_out n]; exact e1, Rp.mono mono _ _ e2⟩
  · obtain ⟨n, e⟩ := wipeR_in e
    obtain ⟨a, e1, e2, e3⟩ := h.ow i d e
    obtain ⟨_, ⟨xs, e4, _⟩, _⟩ := h.oh i a e1
    refine ⟨a, by rw [outOf_ne n]; exact e1, by rw [wipe_out n]; exact e2, ?_⟩
    rw [s _ _ e4, ← e4]
    exact e3.mono mono
  · obtain ⟨e, n⟩ := outOf_le e
    obtain ⟨h1, ⟨xs, h2, h2'⟩, d, h3⟩ := h.oh i a e
    refine ⟨fun z => ?_, ⟨xs, s _ _ h2, h2'⟩, d, by rw [wipeR_out n]; exact h3⟩
    rcases z with z | z | ⟨j, m, z⟩
    · exact h1 z
    · rw [z, nD] at h2; cases h2
    · exact n (by rw [h.inj i j a e z]; exact m)
  · rcases hb with z | z | ⟨i, _, z⟩
    · exact fun q => h.hin b z (s.free q)
    · rw [z]; exact dD
    · obtain ⟨_, ⟨xs, h2, _⟩, _⟩ := h.oh i b z
      rw [s _ _ h2]; exact fun q => nomatch q

/-! ### list comprehensions -/
def lcA (h : D → R (Option D)) : List D → R (List D)
  | [] => .ok []
  | d :: ds => (h d).bind fun o => (lcA h ds).bind fun r => .ok (match o with | some y => y :: r | none => r)
def turnD (g : GF) (tt : TF) (el : EF) (ρ0 : Ro) (d : D) : R (Option D) := match g d ρ0 with
  | none => .bad
  | some ρ1 => (tt ρ1).calm.bind fun b => if b = true then (el ρ1).calm.bind fun e => if okE e = true then .ok (some e.2) else .bad else .ok none
def lcF (f : IF) (vs : List Nat) (g : GF) (tt : TF) (el : EF) : EF := fun ρ => (f ρ).bind fun p => if p.2.length ≤ 16777216 then (lcA (turnD g tt el (wipeR ρ vs)) p.2).calm.bind fun ys => .ok (.fr, .lst ys) else .bad
def tYesF : TF := fun _ => .ok true
abbrev DTs (X : Cx) (W : WX) (ifs : List Expr) (f : TF) : Prop := PTs X ifs (tT X.K X.mg W f)
abbrev W0 : WX := fun _ _ _ _ => False
theorem imp_pts {X : Cx} {e : List Expr} {t t' : TT} (h : PTs X e t) (k : ∀ σ H Q, t' σ H Q → t σ H Q) : PTs X e t' := ⟨fun pins s σ H Q I q => h.run pins s σ H Q I (k _ _ _ q)⟩
section
variable {X : Cx} {W : WX}
theorem dts_nil : DTs X W [] tYesF := imp_pts pts_nil fun σ H Q ⟨hid, own, ρ, hS, h⟩ => h H (Same.refl _)
theorem dts_one {c : Expr} {f : TF} (h : DT X W c f) : DTs X W [c] f := pts_one h
theorem lcA_step {h : D → R (Option D)} {ds : List D} {i : Nat} {d : D} {zs : List D} (e : ds[i]? = some d) (q : lcA h (ds.drop i) = .ok zs) : ∃ o r, h d = .ok o ∧ lcA h (ds.drop (i + 1)) = .ok r ∧ zs = match o with | some y => y :: r | none => r := by
  rw [List.drop_eq_getElem?_toList_append, e] at q
  have q : (h d).bind (fun o => (lcA h (ds.drop (i + 1))).bind fun r => .ok (match o with | some y => y :: r | none => r)) = .ok zs := q
  cases e1 : h d with
  | exc c => rw [e1] at q; cases q
  | bad => rw [e1] at q; cases q
  | ok o =>
    cases e2 : lcA h (ds.drop (i + 1)) with
    | exc c => rw [e1, e2] at q; cases q
    | bad => rw [e1, e2] at q; cases q
    | ok r =>
      rw [e1, e2] at q
      have q := R.ok.inj q
      exact ⟨o, r, rfl, rfl, q.symm⟩
theorem lc_den {g : TG} {tt : TT} {te : TE} {f : IF} {vs ss : List Nat} {gf : GF} {tf : TF} {ef : EF} (hss : ∀ i ∈ ss, i ∈ vs) (hg : g = tG X.K ss gf) (ht : tt = tT X.K X.mg W0 tf) (he : te = tE X.K X.mg W0 ef) {σ : L2.St} {H : Hp} {Q : VK}
    (q : tE X.K X.mg W (lcF f vs gf tf ef) σ H Q) : tLc (tI X.K X.mg W f) g tt te vs σ H Q := by
  subst hg ht he
  obtain ⟨hid, own, ρ, hS, h⟩ := q
  refine ⟨hid, own, ρ, hS, ?_⟩
  unfold lcF at h
  cases e1 : f ρ with
  | exc c => rw [e1] at h; exact h
  | bad => rw [e1] at h; exact h
  | ok p =>
    rw [e1] at h
    intro H1 J s1 it D0 nD
    have S1 := hS.mono s1
    have h : Post X.K hid own H (Wc X.mg W σ) (if p.2.length ≤ 16777216 then (lcA (turnD gf tf ef (wipeR ρ vs)) p.2).calm.bind fun ys => .ok (.fr, .lst ys) else .bad) Q := h
    split at h
    · rename_i hz
      cases e2 : lcA (turnD gf tf ef (wipeR ρ vs)) p.2 with
      | exc c => rw [e2] at h; exact h.elim
      | bad => rw [e2] at h; exact h.elim
      | ok tot =>
        rw [e2] at h
        have h : Post X.K hid own H (Wc X.mg W σ) (.ok (.fr, .lst tot)) Q := h
        refine ⟨fun i m H2 => m = p.2.length - i ∧ i ≤ p.2.length ∧ Same H1 H2 ∧ ∃ ys us zs, H2 D0 = some (.lst us) ∧ RpL X.K (hd H2 fun b => ob hid own b ∨ b = D0) ys us ∧ ys.length ≤ i ∧ lcA (turnD gf tf ef (wipeR ρ vs)) (p.2.drop i) = .ok zs ∧ ys ++ zs = tot,
          ⟨p.2.length, rfl, Nat.zero_le _, sameUpd nD, [], [], tot, upd_same, rfl, Nat.le_refl _, e2, rfl⟩, ?_⟩
        rintro i m H2 ⟨rfl, hi, s2, ys, us, zs, hD, hys, hly, hzs, htot⟩
        have dom : ∀ b, (ob hid own b ∨ b = D0) → H2 b ≠ none := fun b z => z.elim (fun z q => S1.dom b z (s2.free q)) (fun z q => by rw [z, hD] at q; cases q)
        have sl : Same (lvl hid own H1 p.1) H2 := fun b o e => s2 b o (by cases hp : p.1 <;> rw [hp] at e <;> exact hd_le b o e)
        have sc : Same (hd H1 (ob hid own)) (hd H2 fun b => ob hid own b ∨ b = D0) := hd_mono fun b o e n => ⟨s2 b o e, fun z => z.elim n fun z => by rw [z, nD] at e; cases e⟩
        obtain ⟨stop, go⟩ := it i H2 (fun b => ob hid own b ∨ b = D0) sl sc dom
        by_cases hc : i = p.2.length
        · refine .inl ⟨stop hc, ?_⟩
          subst hc
          rw [List.drop_length] at hzs
          have ez : zs = [] := (R.ok.inj hzs).symm
          subst ez
          rw [List.append_nil] at htot
          subst htot
          exact h H2 _ (s1.trans s2) ⟨D0, rfl, s1.free nD, S1.vis nD, us, hD, hys⟩
        · have hlt : i < p.2.length := by omega
          obtain ⟨go1, go2⟩ := go _ (List.getElem?_eq_getElem hlt)
          obtain ⟨o, r, ho, hr, hz2⟩ := lcA_step (List.getElem?_eq_getElem hlt) hzs
          refine .inr ⟨go1, fun H' => Same H1 H' ∧ ∃ ys us zs, H' D0 = some (.lst us) ∧ RpL X.K (hd H' fun b => ob hid own b ∨ b = D0) ys us ∧ ys.length ≤ i + 1 ∧ lcA (turnD gf tf ef (wipeR ρ vs)) (p.2.drop (i + 1)) = .ok zs ∧ ys ++ zs = tot,
            fun H' n => ⟨p.2.length - (i + 1), by omega, rfl, hlt, n⟩, fun x H3 y3 => ?_⟩
          obtain ⟨s3, rx⟩ := go2 x H3 y3
          have S3 : SR X.K (hidB hid own vs D0) (outOf own vs) H3 (wipeR ρ vs) (wipe σ vs) := S1.blk nD (s2.trans s3) (by rw [s3 _ _ hD]; exact fun z => nomatch z) vs
          unfold turnD at ho
          refine ⟨hidB hid own vs D0, outOf own vs, wipeR ρ vs, p.2[i], S3, Rp.mono (hd_mono fun b o e n => ⟨e, fun z => n (ob_blk.mp z)⟩) _ _ rx, ?_⟩
          cases eg : gf p.2[i] (wipeR ρ vs) with
          | none => rw [eg] at ho; cases ho
          | some ρ1 =>
            rw [eg] at ho
            intro own1 σ1 S4 le1 ge1 k1 l1
            refine ⟨wipe_eq (by rw [l1, wipe_length]) (fun j hj => by rw [k1 j (fun z => hj (hss j z)), wipe_out hj]), ?_⟩
            have obs : ∀ b, ob (hidB hid own vs D0) own1 b ↔ ob hid own b ∨ b = D0 := fun b => ⟨fun z => ob_blk.mp (z.elim .inl fun ⟨j, z⟩ => .inr ⟨j, le1 j b z⟩), fun z => (ob_blk.mpr z).elim .inl fun ⟨j, z⟩ => .inr ⟨j, ge1 j b z fun m => (outOf_le z).2 (hss j m)⟩⟩
            have ho : (tf ρ1).calm.bind (fun b => if b = true then (ef ρ1).calm.bind fun e => if okE e = true then .ok (some e.2) else .bad else .ok none) = .ok o := ho
            refine ⟨_, own1, ρ1, S4, ?_⟩
            cases et : tf ρ1 with
            | exc c => rw [et] at ho; cases ho
            | bad => rw [et] at ho; cases ho
            | ok b =>
              rw [et] at ho
              intro H4 s4
              have ho : (if b = true then (ef ρ1).calm.bind fun e => if okE e = true then .ok (some e.2) else .bad else .ok none) = R.ok o := ho
              cases b with
              | false =>
                rw [if_neg Bool.false_ne_true] at ho ⊢
                have ho := R.ok.inj ho
                subst ho
                have s34 := s3.trans s4
                exact ⟨s2.trans s34, ys, us, r, s34 _ _ hD, RpL.mono (hd_same s34) _ _ hys, by omega, hr, by rw [hz2] at htot; exact htot⟩
              | true =>
                rw [if_pos rfl] at ho ⊢
                refine ⟨_, own1, ρ1, S4.mono s4, ?_⟩
                cases ee : ef ρ1 with
                | exc c => rw [ee] at ho; cases ho
                | bad => rw [ee] at ho; cases ho
                | ok e =>
                  rw [ee] at ho
                  have ho : (if okE e = true then R.ok (some e.2) else .bad) = R.ok o := ho
                  split at ho
                  · rename_i hok
                    have ho := R.ok.inj ho
                    subst ho
                    intro H5 v s5 r5
                    have s35 := (s3.trans s4).trans s5
                    have hD5 := s35 _ _ hD
                    have rv := Rp.mono (hd_mono (H' := H5) (P' := fun b => ob hid own b ∨ b = D0) fun b o e n => ⟨e, fun z => n ((obs b).mpr z)⟩) _ _ (r5.clean hok)
                    have up : Same (hd H5 fun b => ob hid own b ∨ b = D0) (hd (upd H5 D0 (.lst (us ++ [v]))) fun b => ob hid own b ∨ b = D0) := hd_mono fun b o e n => ⟨by rw [upd_ne (fun z => n (.inr z))]; exact e, n⟩
                    refine ⟨us, hD5, ?_, fun b o e => ?_, ys ++ [e.2], us ++ [v], r, upd_same, RpL.mono up _ _ (RpL.app (RpL.mono (hd_same s35) _ _ hys) (RpL.one rv)), by rw [List.length_append, List.length_singleton]; omega, hr, ?_⟩
                    · rw [hys.len, sizeLine_eq]; omega
                    · have hb : b ≠ D0 := fun z => by rw [z, nD] at e; cases e
                      rw [upd_ne hb]
                      exact s35 _ _ (s2 _ _ e)
                    · rw [hz2] at htot
                      rw [List.append_assoc]
                      exact htot
                  · cases ho
    · exact h.elim
theorem de_lc {elt tg iter : Expr} {ifs : List Expr} {scope : Scope} {own : List (Str × Nat)} {pos : Pos} {ss : List Nat} {f : IF} {gf : GF} {tf : TF} {ef : EF} (hc : X.calm = true) (hN : X.N.Nodup) (ok : BlkOk X.N X.env.scope scope own) (hss : ∀ i ∈ ss, i ∈ own.map (·.2)) (hi : DI X W tg iter f)
    (hg : ∀ (s : Shared) (H : Hp) (C : Addr) (cl : List (Str × Addr)) (fp : List Addr), DG (X.blk s H scope (compEnvC scope cl C X.env) fp) tg ss gf) (ht : ∀ (s : Shared) (H : Hp) (C : Addr) (cl : List (Str × Addr)) (fp : List Addr), DTs (X.blk s H scope (compEnvC scope cl C X.env) fp) W0 ifs tf)
    (he : ∀ (s : Shared) (H : Hp) (C : Addr) (cl : List (Str × Addr)) (fp : List Addr), DE (X.blk s H scope (compEnvC scope cl C X.env) fp) W0 elt ef) (hs : ∀ x, foldedSetIterable iter X.env x = pure x := by intro _; rfl) :
    DE X W (.ListComp elt [⟨tg, iter, ifs, 0⟩] scope pos) (lcF f (own.map (·.2)) gf tf ef) :=
  imp_pe (pe_lc hc hN hi ok hg ht he hs) fun σ H Q q => lc_den hss rfl rfl rfl q
end
end PL
set_option Elab.async false
set_option linter.all false
set_option maxRecDepth 100000
set_option maxHeartbeats 4000000
/-! PL7: statements over pure data. -/
namespace PL
open PySem PySem.Spec L2

inductive SRes where
  | nx (ρ : Ro) | rt (e : Ev) | bk (ρ : Ro) | ct (ρ : Ro) | exc (c : Str) (ρ : Ro) | bad
abbrev SF := Ro → SRes

/-- what a statement leaves: the objects that are not the call's own stay; a list that becomes its own was so before, or is new -/
structure Ext (own own' : Own) (H H' : Hp) : Prop where
  keep : ∀ b o, H b = some o → (∀ i, own i ≠ some b) → H' b = some o
  isow : ∀ i b, own' i = some b → (∃ j, own j = some b) ∨ H b = none
  free : ∀ b, H' b = none → H b = none
theorem Ext.refl {own : Own} {H : Hp} : Ext own own H H := ⟨fun _ _ e _ => e, fun i _ e => .inl ⟨i, e⟩, fun _ e => e⟩
theorem Ext.trans {o1 o2 o3 : Own} {H1 H2 H3 : Hp} (h : Ext o1 o2 H1 H2) (k : Ext o2 o3 H2 H3) : Ext o1 o3 H1 H3 := by
  refine ⟨fun b o e n => k.keep b o (h.keep b o e n) fun i z => ?_, fun i b e => ?_, fun b e => h.free b (k.free b e)⟩
  · rcases h.isow i b z with ⟨j, q⟩ | q
    · exact n j q
    · rw [q] at e; cases e
  · rcases k.isow i b e with ⟨j, q⟩ | q
    · exact h.isow j b q
    · exact .inr (h.free b q)
theorem Ext.same {own : Own} {H H' : Hp} (s : Same H H') : Ext own own H H' := ⟨fun b o e _ => s b o e, fun i _ e => .inl ⟨i, e⟩, fun _ e => s.free e⟩
theorem Ext.seen {own own' : Own} {hid : Addr → Prop} {H H' : Hp} (h : Ext own own' H H') : Same (hd H (ob hid own)) (hd H' (ob hid own')) := hd_mono fun b o e n =>
  ⟨h.keep b o e fun i z => n (.inr ⟨i, z⟩), fun z => z.elim (fun z => n (.inl z)) fun ⟨i, z⟩ => (h.isow i b z).elim (fun z => n (.inr z)) fun z => by rw [z] at e; cases e⟩
/-- what comes back -/
def RX (K : PySem.W.Frag) (hid : Addr → Prop) (own : Own) (H H' : Hp) : Ev → V → Prop
  | (.fr, d), v => ∃ a, v = .ref a ∧ (H a = none ∨ ∃ i, own i = some a) ∧ ¬ hid a ∧ MR K (hd H' fun b => hid b ∨ b = a) (H' a) d
  | (_, d), v => Rp K (hd H' hid) d v
theorem RX.ext {K : PySem.W.Frag} {hid : Addr → Prop} {own own' : Own} {H H1 H' : Hp} (x : Ext own own' H H1) : ∀ {e : Ev} {v : V}, RX K hid own' H1 H' e v → RX K hid own H H' e v
  | (.fr, _), _, ⟨a, e, h, n, m⟩ => ⟨a, e, h.elim (fun z => .inl (x.free a z)) (fun ⟨i, z⟩ => (x.isow i a z).elim .inr .inl), n, m⟩
  | (.cl, _), _, h => h
  | (.pk, _), _, h => h
def PostS (K : PySem.W.Frag) (mg : Str → Option Value) (W : WX) (hid : Addr → Prop) (own : Own) (H : Hp) (D : Ends) (r : SRes) : Prop :=
  match r with
  | .nx ρ => ∀ own' σ' H', Ext own own' H H' → SR K hid own' H' ρ σ' → D.nx σ' H'
  | .bk ρ => ∀ own' σ' H', Ext own own' H H' → SR K hid own' H' ρ σ' → D.bk σ' H'
  | .ct ρ => ∀ own' σ' H', Ext own own' H H' → SR K hid own' H' ρ σ' → D.ct σ' H'
  | .rt e => ∀ own' H' v, Ext own own' H H' → RX K hid own H H' e v → D.rt v H'
  | .exc c ρ => ∀ own' σ' H', Ext own own' H H' → SR K hid own' H' ρ σ' → Wc mg W σ' c H'
  | .bad => False
theorem PostS.ext {K : PySem.W.Frag} {mg : Str → Option Value} {W : WX} {hid : Addr → Prop} {own own' : Own} {H H' : Hp} {D : Ends} {r : SRes} (x : Ext own own' H H') (h : PostS K mg W hid own H D r) : PostS K mg W hid own' H' D r := by
  cases r with
  | nx ρ => exact fun o σ' h' x' => h o σ' h' (x.trans x')
  | bk ρ => exact fun o σ' h' x' => h o σ' h' (x.trans x')
  | ct ρ => exact fun o σ' h' x' => h o σ' h' (x.trans x')
  | exc c ρ => exact fun o σ' h' x' => h o σ' h' (x.trans x')
  | rt e => exact fun o h' v x' r => h o h' v (x.trans x') (r.ext x)
  | bad => exact h
def tS (K : PySem.W.Frag) (mg : Str → Option Value) (W : WX) (f : SF) : TS := fun D σ H => ∃ hid own ρ, SR K hid own H ρ σ ∧ PostS K mg W hid own H D (f ρ)
abbrev DS (X : Cx) (W : WX) (st : Stmt) (f : SF) : Prop := PS X st (tS X.K X.mg W f)
abbrev DSs (X : Cx) (W : WX) (st : List Stmt) (f : SF) : Prop := PSs X st (tS X.K X.mg W f)

def sOf (r : R Ev) (ρ : Ro) (k : Ev → SRes) : SRes := match r with
  | .ok e => k e
  | .exc c => .exc c ρ
  | .bad => .bad
section
variable {K : PySem.W.Frag} {mg : Str → Option Value} {W : WX} {hid : Addr → Prop} {own : Own} {H H' : Hp} {ρ : Ro} {σ : L2.St} {D : Ends}
theorem PostS.part {r : R Ev} {k : Ev → SRes} {T : VK} (hS : SR K hid own H ρ σ) (h : PostS K mg W hid own H D (sOf r ρ k))
    (q : ∀ e H1 v, Same H H1 → RV K hid own H H1 e.1 e.2 v → PostS K mg W hid own H D (k e) → T v H1) : Post K hid own H (Wc mg W σ) r T := by
  cases r with
  | ok e => exact fun H1 v s r => q e H1 v s r h
  | exc c => exact fun H1 s => h own σ H1 (Ext.same s) (hS.mono s)
  | bad => exact h
end

/-! ### blocks -/
def sSkip : SF := .nx
def sSeq (f g : SF) : SF := fun ρ => match f ρ with
  | .nx ρ' => g ρ'
  | r => r
def sIf (t : TF) (f g : SF) : SF := fun ρ => match t ρ with
  | .ok true => f ρ
  | .ok false => g ρ
  | .exc c => .exc c ρ
  | .bad => .bad
section
variable {X : Cx} {W : WX} {st : Stmt} {sts : List Stmt} {f g : SF} {e : Expr} {fe : EF} {pos : Pos}
theorem imp_psD {st : Stmt} {t t' : TS} (h : PS X st t) (k : ∀ D σ H, t' D σ H → t D σ H) : PS X st t' := imp_ps h k
theorem dss_nil : DSs X W [] sSkip := imp_pss pss_nil fun D σ H ⟨hid, own, ρ, hS, h⟩ => h own σ H Ext.refl hS
theorem seqD {K : PySem.W.Frag} {mg : Str → Option Value} : ∀ D σ H, tS K mg W (sSeq f g) D σ H → tSeq (tS K mg W f) (tS K mg W g) D σ H := fun D σ H ⟨hid, own, ρ, hS, h⟩ => ⟨hid, own, ρ, hS, by
  unfold sSeq at h
  cases e : f ρ with
  | nx ρ' => rw [e] at h; exact fun own' σ' H' x S' => ⟨hid, own', ρ', S', PostS.ext x h⟩
  | bk ρ' => rw [e] at h; exact h
  | ct ρ' => rw [e] at h; exact h
  | rt ρ' => rw [e] at h; exact h
  | exc c ρ' => rw [e] at h; exact h
  | bad => rw [e] at h; exact h⟩
theorem dss_cons (h1 : DS X W st f) (h2 : DSs X W sts g) : DSs X W (st :: sts) (sSeq f g) := imp_pss (pss_cons h1 h2) seqD
theorem dss_one (h : DS X W st f) : DSs X W [st] f := pss_one h
theorem ds_pass : DS X W (.Pass pos) sSkip := imp_ps ps_pass fun D σ H ⟨hid, own, ρ, hS, h⟩ => h own σ H Ext.refl hS
theorem ds_break : DS X W (.Break pos) .bk := imp_ps ps_break fun D σ H ⟨hid, own, ρ, hS, h⟩ => h own σ H Ext.refl hS
theorem ds_continue : DS X W (.Continue pos) .ct := imp_ps ps_continue fun D σ H ⟨hid, own, ρ, hS, h⟩ => h own σ H Ext.refl hS
theorem ds_doc {x j pos'} : DS X W (.Expr (.Constant (.str x) j pos) pos') sSkip := imp_ps ps_doc fun D σ H ⟨hid, own, ρ, hS, h⟩ => h own σ H Ext.refl hS
def sNever : SF := fun _ => .bad
theorem ds_never : DS X W st sNever := imp_ps ps_never fun D σ H ⟨hid, own, ρ, hS, h⟩ => h.elim
theorem ds_if {c : Expr} {a b : List Stmt} {t : TF} (hc : DT X W c t) (ha : DSs X W a f) (hb : DSs X W b g) : DS X W (.If c a b pos) (sIf t f g) :=
  imp_ps (ps_if hc ha hb) fun D σ H ⟨hid, own, ρ, hS, h⟩ => ⟨hid, own, ρ, hS, by
    unfold sIf at h
    cases e : t ρ with
    | ok b =>
      rw [e] at h
      intro H1 s1
      cases b with
      | true => rw [if_pos rfl]; exact ⟨hid, own, ρ, hS.mono s1, PostS.ext (Ext.same s1) h⟩
      | false => rw [if_neg Bool.false_ne_true]; exact ⟨hid, own, ρ, hS.mono s1, PostS.ext (Ext.same s1) h⟩
    | exc c => rw [e] at h; exact fun H1 s => h own σ H1 (Ext.same s) (hS.mono s)
    | bad => rw [e] at h; exact h.elim⟩

/-! ### drops, returns -/
def sDrop (fe : EF) : SF := fun ρ => sOf (fe ρ) ρ fun _ => .nx ρ
theorem ds_expr (he : DE X W e fe) (hs : swapsWith e none pos.line X.env = pure false := by rfl) : DS X W (.Expr e pos) (sDrop fe) :=
  imp_ps (ps_expr he hs) fun D σ H ⟨hid, own, ρ, hS, h⟩ => ⟨hid, own, ρ, hS, PostS.part hS h fun x H1 v s1 r1 h1 => h1 own σ H1 (Ext.same s1) (hS.mono s1)⟩
theorem RX.of {K : PySem.W.Frag} {hid : Addr → Prop} {own : Own} {H H' : Hp} : ∀ {e : Ev} {v : V}, RV K hid own H H' e.1 e.2 v → RX K hid own H H' e v
  | (.pk, _), _, h => h.rp
  | (.cl, _), _, h => Rp.mono hd_ob_hid _ _ h
  | (.fr, _), _, ⟨a, e, n, nb, m⟩ => ⟨a, e, .inl n, fun z => nb (.inl z), m.mono (hd_mono fun b o e n => ⟨e, fun z => n (z.elim (fun z => .inl (.inl z)) .inr)⟩)⟩
def sRet (fe : EF) : SF := fun ρ => sOf (fe ρ) ρ .rt
theorem ds_ret (he : DE X W e fe) : DS X W (.Return (some e) pos) (sRet fe) :=
  imp_ps (ps_ret he) fun D σ H ⟨hid, own, ρ, hS, h⟩ => ⟨hid, own, ρ, hS, PostS.part hS h fun x H1 v s1 r1 h1 => h1 own H1 v (Ext.same s1) (RX.of r1)⟩
def sRetN : SF := fun _ => .rt (.cl, .non)
theorem ds_retN : DS X W (.Return none pos) sRetN := imp_ps ps_retN fun D σ H ⟨hid, own, ρ, hS, h⟩ => h own H .non Ext.refl rfl
/-- return name: a list of the call's own is handed out -/
def sRetV (i : Nat) : SF := fun ρ => match ρ[i]? with
  | some (some (true, d)) => .rt (.fr, d)
  | some (some (false, d)) => .rt (.cl, d)
  | _ => .bad
theorem ds_retV (i : Nat) {x : Str} {p : Pos} (hx : PE X (.Name x p) (tVar i)) : DS X W (.Return (some (.Name x p)) pos) (sRetV i) :=
  imp_ps (ps_ret hx) fun D σ H ⟨hid, own, ρ, hS, h⟩ => by
    unfold sRetV at h
    split at h
    · rename_i d e
      obtain ⟨a, e1, e2, e3⟩ := hS.ow i d e
      exact ⟨_, e2, h own H _ Ext.refl ⟨a, rfl, .inr ⟨i, e1⟩, (hS.oh i a e1).1, e3.mono (hd_mono fun b o q n => ⟨q, fun z => n (z.elim .inl fun z => .inr ⟨i, by rw [z]; exact e1⟩)⟩)⟩⟩
    · rename_i d e
      obtain ⟨v, e1, e2⟩ := hS.val i d e
      exact ⟨v, e1, h own H _ Ext.refl (Rp.mono hd_ob_hid _ _ e2)⟩
    · exact h.elim

/-! ### name = e -/
open Classical in
noncomputable def setOwn (own : Own) (i : Nat) (a : Addr) : Own := fun j => if j = i then some a else own j
theorem setOwn_le {own : Own} {i j : Nat} {a b : Addr} (h : setOwn own i a j = some b) : (j = i ∧ b = a) ∨ (j ≠ i ∧ own j = some b) := by
  unfold setOwn at h
  by_cases c : j = i
  · rw [if_pos c] at h; exact .inl ⟨c, (Option.some.inj h).symm⟩
  · rw [if_neg c] at h; exact .inr ⟨c, h⟩
theorem SR.setO {K : PySem.W.Frag} {hid : Addr → Prop} {own : Own} {H H' : Hp} {ρ : Ro} {σ : L2.St} (h : SR K hid own H ρ σ) (s : Same H H') {i : Nat} {d : D} {a : Addr} (hi : i < ρ.length) (na : H a = none) (nb : ¬ ob hid own a)
    (m : MR K (hd H' fun b => ob hid own b ∨ b = a) (H' a) d) : SR K hid (setOwn own i a) H' (ρ.set i (some (true, d))) (σ.set i (some (.ref a))) := by
  have obs : ∀ b, ob hid (setOwn own i a) b → ob hid own b ∨ b = a := fun b z => z.elim (fun z => .inl (.inl z)) fun ⟨j, z⟩ => (setOwn_le z).elim (fun z => .inr z.2) fun z => .inl (.inr ⟨j, z.2⟩)
  have mono : Same (hd H (ob hid own)) (hd H' (ob hid (setOwn own i a))) := hd_mono fun b o e n => ⟨s _ _ e, fun z => (obs b z).elim n fun z => by rw [z, na] at e; cases e⟩
  have selfO : setOwn own i a i = some a := if_pos rfl
  have otherO : ∀ {j : Nat} {b : Addr}, j ≠ i → own j = some b → setOwn own i a j = some b := fun c e => by unfold setOwn; rw [if_neg c]; exact e
  refine ⟨by rw [List.length_set, List.length_set]; exact h.len, fun j d' e => ?_, fun j d' e => ?_, fun j k b e1 e2 => ?_, fun j b e => ?_, fun b hb z => h.hin b hb (s.free z)⟩
  · by_cases c : i = j
    · subst c; rw [List.getElem?_set_self hi] at e; cases e
    · rw [List.getElem?_set_ne c] at e ⊢
      obtain ⟨u, e1, e2⟩ := h.val j d' e
      exact ⟨u, e1, Rp.mono mono _ _ e2⟩
  · by_cases c : i = j
    · subst c
      rw [List.getElem?_set_self hi] at e
      cases e
      exact ⟨a, selfO, by rw [List.getElem?_set_self (by rw [← h.len]; exact hi)], m.mono (hd_mono fun b o q n => ⟨q, fun z => n (obs b z)⟩)⟩
    · rw [List.getElem?_set_ne c] at e ⊢
      obtain ⟨b, e1, e2, e3⟩ := h.ow j d' e
      obtain ⟨_, ⟨xs, e4, _⟩, _⟩ := h.oh j b e1
      refine ⟨b, otherO (Ne.symm c) e1, e2, ?_⟩
      rw [s _ _ e4, ← e4]
      exact e3.mono mono
  · rcases setOwn_le e1 with ⟨c1, z1⟩ | ⟨c1, z1⟩ <;> rcases setOwn_le e2 with ⟨c2, z2⟩ | ⟨c2, z2⟩
    · rw [c1, c2]
    · exact absurd (.inr ⟨k, by rw [← z1]; exact z2⟩) nb
    · exact absurd (.inr ⟨j, by rw [← z2]; exact z1⟩) nb
    · exact h.inj j k b z1 z2
  · rcases setOwn_le e with ⟨c, z⟩ | ⟨c, z⟩
    · subst c z
      refine ⟨fun q => nb (.inl q), ?_, d, by rw [List.getElem?_set_self hi]⟩
      cases d with
      | lst ds => obtain ⟨us, q, _⟩ := m; exact ⟨_, q, True.intro⟩
      | dct ks ds => obtain ⟨us, ⟨kk, _, _, q⟩, _⟩ := m; exact ⟨_, q, True.intro⟩
      | obj c ns ds => obtain ⟨us, ⟨C, dx, _, _, q⟩, _⟩ := m; exact ⟨_, q, True.intro⟩
      | _ => exact m.elim
    · obtain ⟨h1, ⟨xs, h2, h2'⟩, d', h3⟩ := h.oh j b z
      exact ⟨h1, ⟨xs, s _ _ h2, h2'⟩, d', by rw [List.getElem?_set_ne (Ne.symm c)]; exact h3⟩
def setSl (i : Nat) (ρ : Ro) : Ev → SRes
  | (.fr, d) => if i < ρ.length then .nx (ρ.set i (some (true, d))) else .bad
  | e => if okE e = true then .nx (ρ.set i (some (false, e.2))) else .bad
def sSet (i : Nat) (fe : EF) : SF := fun ρ => sOf (fe ρ) ρ (setSl i ρ)
theorem setSl_ok {K : PySem.W.Frag} {mg : Str → Option Value} {hid : Addr → Prop} {own : Own} {H H1 : Hp} {ρ : Ro} {σ : L2.St} {DD : Ends} {i : Nat} {x : Ev} {v : V} (hS : SR K hid own H ρ σ) (s1 : Same H H1) (r1 : RV K hid own H H1 x.1 x.2 v)
    (h1 : PostS K mg W hid own H DD (setSl i ρ x)) : DD.nx (σ.set i (some v)) H1 := by
  have val : ∀ {d : D}, Rp K (hd H1 (ob hid own)) d v → PostS K mg W hid own H DD (.nx (ρ.set i (some (false, d)))) → DD.nx (σ.set i (some v)) H1 := fun {d} r h1 =>
    h1 (unown own i) _ H1 ⟨fun b o e _ => s1 b o e, fun j b e => .inl ⟨j, (unown_le e).1⟩, fun b e => s1.free e⟩ ((hS.mono s1).setV r)
  obtain ⟨k, d⟩ := x
  cases k with
  | fr =>
    have h1 : PostS K mg W hid own H DD (if i < ρ.length then .nx (ρ.set i (some (true, d))) else .bad) := h1
    split at h1
    · rename_i hi
      obtain ⟨a, ev, na, nb, m⟩ := r1
      subst ev
      refine h1 (setOwn own i a) _ H1 ⟨fun b o e _ => s1 b o e, fun j b e => ?_, fun b e => s1.free e⟩ (hS.setO s1 hi na nb m)
      rcases setOwn_le e with ⟨_, z⟩ | ⟨_, z⟩
      · rw [z]; exact .inr na
      · exact .inl ⟨j, z⟩
    · exact h1.elim
  | cl => exact val r1 h1
  | pk =>
    have h1 : PostS K mg W hid own H DD (if okE (.pk, d) = true then .nx (ρ.set i (some (false, d))) else .bad) := h1
    split at h1
    · rename_i hok
      exact val (r1.clean hok) h1
    · exact h1.elim
theorem ds_set (i : Nat) {x : Str} {pos' : Pos} (hN : X.N.Nodup) (hi : X.N[i]? = some x) (hx : Loc X.env.scope x) (he : DE X W e fe) (hs : swapsWith e (some (.Name x pos')) pos.line X.env = pure false := by rfl) (hf : X.fn x = true ∨ X.env.scope.names.lookup x = some .local := by first | exact .inl rfl | exact .inr rfl | assumption) :
    DS X W (.Assign [.Name x pos'] e pos) (sSet i fe) :=
  imp_ps (ps_set hN hi hx he hs hf) fun D σ H ⟨hid, own, ρ, hS, h⟩ => ⟨hid, own, ρ, hS, PostS.part hS h fun x H1 v s1 r1 h1 => setSl_ok hS s1 r1 h1⟩
theorem ds_setLc (i : Nat) {y : Str} {py : Pos} {elt tg iter : Expr} {ifs : List Expr} {scope : Scope} {own : List (Str × Nat)} {pos spos : Pos} {ss : List Nat} {f : IF} {gf : GF} {tf : TF} {ef : EF} (hc : X.calm = true) (hN : X.N.Nodup) (hy : X.N[i]? = some y) (hyl : X.env.scope.names.lookup y = some .local)
    (hsw : swapsWith (.ListComp elt [⟨tg, iter, ifs, 0⟩] scope pos) (some (.Name y py)) spos.line X.env = pure true) (ok : BlkOk X.N X.env.scope scope own) (hss : ∀ i ∈ ss, i ∈ own.map (·.2)) (hi : DI X W tg iter f)
    (hg : ∀ (s : Shared) (H : Hp) (C : Addr) (cl : List (Str × Addr)) (fp : List Addr), DG (X.blk s H scope (compEnvC scope cl C X.env) fp) tg ss gf) (ht : ∀ (s : Shared) (H : Hp) (C : Addr) (cl : List (Str × Addr)) (fp : List Addr), DTs (X.blk s H scope (compEnvC scope cl C X.env) fp) W0 ifs tf)
    (he : ∀ (s : Shared) (H : Hp) (C : Addr) (cl : List (Str × Addr)) (fp : List Addr), DE (X.blk s H scope (compEnvC scope cl C X.env) fp) W0 elt ef) (hs : ∀ x, foldedSetIterable iter X.env x = pure x := by intro _; rfl) :
    DS X W (.Assign [.Name y py] (.ListComp elt [⟨tg, iter, ifs, 0⟩] scope pos) spos) (sSet i (lcF f (own.map (·.2)) gf tf ef)) :=
  imp_ps (ps_setLc hc hN hy hyl hsw hi ok hg ht he hs) fun D σ H ⟨hid, own, ρ, hS, h⟩ => lc_den hss rfl rfl rfl ⟨hid, own, ρ, hS, PostS.part hS h fun x H1 v s1 r1 h1 => setSl_ok hS s1 r1 h1⟩
/-- a target of several names -/
def sAsg (fe : EF) (g : GF) : SF := fun ρ => sOf (fe ρ) ρ fun e => if okE e = true then (match g e.2 ρ with | some ρ' => .nx ρ' | none => .bad) else .bad
theorem ds_asg {tg : Expr} {ss : List Nat} {gf : GF} (he : DE X W e fe) (hg : DG X tg ss gf) (hs : swapsWithSole [tg] e pos.line X.env = pure false := by rfl) (hw : swappedStores [tg] e X.env = pure none := by rfl)
    (h1 : (assignEach [tg] X.env).map (·.2) = [assign tg X.env] := by rfl) : DS X W (.Assign [tg] e pos) (sAsg fe gf) :=
  imp_ps (ps_asg he hg hs hw h1) fun D σ H ⟨hid, own, ρ, hS, h⟩ => ⟨hid, own, ρ, hS, PostS.part hS h fun x H1 v s1 r1 h1 => by
    by_cases c : okE x = true
    · rw [if_pos c] at h1
      refine ⟨hid, own, ρ, x.2, hS.mono s1, r1.clean c, ?_⟩
      cases eg : gf x.2 ρ with
      | none => rw [eg] at h1; exact h1.elim
      | some ρ' => rw [eg] at h1; exact fun own' σ' S' le ge k l => h1 own' σ' H1 ⟨fun b o e _ => s1 b o e, fun j b e => .inl ⟨j, le j b e⟩, fun b e => s1.free e⟩ S'
    · rw [if_neg c] at h1; exact h1.elim⟩
/-- name op= e -/
def sAug (i : Nat) (f : Int → Int → Int) (fe : EF) : SF := fun ρ => match ρ[i]? with
  | some (some (false, .int a)) => sOf (fe ρ) ρ fun e => match e.2 with
    | .int b => .nx (ρ.set i (some (false, .int (f a b))))
    | _ => .bad
  | _ => .bad
theorem ds_aug (i : Nat) {x : Str} {op : Operator} {f : Int → Int → Int} {pos' : Pos} (ho : PIp X op (ipI f)) (hN : X.N.Nodup) (hi : X.N[i]? = some x) (hx : Loc X.env.scope x) (he : DE X W e fe) (hf : X.fn x = true ∨ X.env.scope.names.lookup x = some .local := by first | exact .inl rfl | exact .inr rfl | assumption) :
    DS X W (.AugAssign (.Name x pos') op e pos) (sAug i f fe) :=
  imp_ps (ps_aug hN hi hx he ho hf) fun D σ H ⟨hid, own, ρ, hS, h⟩ => by
    unfold sAug at h
    split at h
    · rename_i a ea
      obtain ⟨v, e1, e2⟩ := hS.val i _ ea
      refine ⟨v, e1, hid, own, ρ, hS, PostS.part hS h fun x H1 u s1 r1 h1 => ?_⟩
      obtain ⟨k, d⟩ := x
      cases d with
      | int b => exact ⟨a, b, e2, r1.rt, h1 (unown own i) _ H1 ⟨fun b o e _ => s1 b o e, fun j b e => .inl ⟨j, (unown_le e).1⟩, fun b e => s1.free e⟩ ((hS.mono s1).setV rfl)⟩
      | _ => exact h1.elim
    · exact h.elim

/-! ### lists of the call's own are written -/
theorem SR.wr {K : PySem.W.Frag} {hid : Addr → Prop} {own : Own} {H : Hp} {ρ : Ro} {σ : L2.St} (h : SR K hid own H ρ σ) {i : Nat} {a : Addr} {d : D} {o : HO} (ha : own i = some a) (ho : Ownd o) (m : MR K (hd H (ob hid own)) (some o) d) :
    SR K hid own (upd H a o) (ρ.set i (some (true, d))) σ ∧ Ext own own H (upd H a o) := by
  obtain ⟨na, ⟨xs, hx, _⟩, d0, hr⟩ := h.oh i a ha
  have hi : i < ρ.length := (List.getElem?_eq_some_iff.mp hr).1
  have mono : Same (hd H (ob hid own)) (hd (upd H a o) (ob hid own)) := hd_mono fun b o e n => ⟨by rw [upd_ne (fun z => n (.inr ⟨i, by rw [z]; exact ha⟩))]; exact e, n⟩
  have m : MR K (hd (upd H a o) (ob hid own)) (some o) d := m.mono mono
  refine ⟨⟨by rw [List.length_set]; exact h.len, fun j d' e => ?_, fun j d' e => ?_, h.inj, fun j b e => ?_, fun b hb => ?_⟩, fun b o e n => ?_, fun j b e => .inl ⟨j, e⟩, fun b e => ?_⟩
  · by_cases c : i = j
    · subst c; rw [List.getElem?_set_self hi] at e; cases e
    · rw [List.getElem?_set_ne c] at e
      obtain ⟨u, e1, e2⟩ := h.val j d' e
      exact ⟨u, e1, Rp.mono mono _ _ e2⟩
  · by_cases c : i = j
    · subst c
      rw [List.getElem?_set_self hi] at e
      cases e
      obtain ⟨b, e1, e2, _⟩ := h.ow i d0 hr
      rw [ha] at e1
      cases e1
      exact ⟨a, ha, e2, by rw [upd_same]; exact m⟩
    · rw [List.getElem?_set_ne c] at e
      obtain ⟨b, e1, e2, e3⟩ := h.ow j d' e
      have hb : b ≠ a := fun z => c (h.inj i j a ha (by rw [← z]; exact e1))
      refine ⟨b, e1, e2, ?_⟩
      rw [upd_ne hb]
      exact e3.mono mono
  · obtain ⟨h1, ⟨ys, h2, h2'⟩, d', h3⟩ := h.oh j b e
    refine ⟨h1, ?_, ?_⟩
    · by_cases c : b = a
      · subst c; exact ⟨o, upd_same, ho⟩
      · exact ⟨ys, by rw [upd_ne c]; exact h2, h2'⟩
    · by_cases c : i = j
      · subst c; exact ⟨_, by rw [List.getElem?_set_self hi]⟩
      · exact ⟨d', by rw [List.getElem?_set_ne c]; exact h3⟩
  · have c : b ≠ a := fun z => na (by rw [← z]; exact hb)
    rw [upd_ne c]; exact h.hin b hb
  · rw [upd_ne (fun z => n i (by rw [z]; exact ha))]; exact e
  · by_cases c : b = a
    · subst c; rw [upd_same] at e; cases e
    · rw [upd_ne c] at e; exact e
theorem SR.wrL {K : PySem.W.Frag} {hid : Addr → Prop} {own : Own} {H : Hp} {ρ : Ro} {σ : L2.St} (h : SR K hid own H ρ σ) {i : Nat} {a : Addr} {ds : List D} {us : List V} (ha : own i = some a) (r : RpL K (hd H (ob hid own)) ds us) :
    SR K hid own (upd H a (.lst us)) (ρ.set i (some (true, .lst ds))) σ ∧ Ext own own H (upd H a (.lst us)) := h.wr ha True.intro ⟨us, rfl, r⟩
/-- name.append(e) -/
def sApp (i : Nat) (fe : EF) : SF := fun ρ => match ρ[i]? with
  | some (some (true, .lst ds)) => sOf (fe ρ) ρ fun e => if okE e = true ∧ ds.length < 16777216 then .nx (ρ.set i (some (true, .lst (ds ++ [e.2])))) else .bad
  | _ => .bad
theorem ds_app (i : Nat) {x : Str} {p apos cpos : Pos} (hv : PE X (.Name x p) (tVar i)) (he : DE X W e fe) (hs : starEach [e] X.env = (false, eval e X.env) :: starEach [] X.env := by rfl)
    (hsw : swapsWith (.Call (.Attribute (.Name x p) "append" apos) [e] [] cpos) none pos.line X.env = pure false := by rfl)
    (hbase : attributeBase (.Name x p) "append" X.env (eval (.Name x p) X.env) = eval (.Name x p) X.env := by rfl)
    (hline : (apos.endLine == cpos.line) = true := by rfl) (hfew : ((backTo cpos (starEach [e] X.env)).all (fun x => !x.1) && (backToKw cpos (keywordEach [] X.env)).all (fun x => x.1.isSome)
      && decide (([e] : List Expr).length + ([] : List Keyword).length + (if ([] : List Keyword).isEmpty then 0 else 1) < 30)) = true := by rfl) :
    DS X W (.Expr (.Call (.Attribute (.Name x p) "append" apos) [e] [] cpos) pos) (sApp i fe) := by
  refine imp_ps (ps_expr (pe_bm F.plainAttrs_list F.slot_list_append F.type_list_append mt_append hv (pa_cons he pa_nil hs) hbase hfew hline hs rfl) hsw) fun D σ H ⟨hid, own, ρ, hS, h⟩ => ?_
  unfold sApp at h
  split at h
  · rename_i ds ed
    obtain ⟨a, ea, es, us, eh, er⟩ := hS.ow i _ ed
    refine ⟨_, es, ?_, hid, own, ρ, hS, PostS.part hS h fun x H1 v s1 r1 h1 => ?_⟩
    · exact .inl ⟨rfl, us, SqL.of eh⟩
    · by_cases c : okE x = true ∧ ds.length < 16777216
      · rw [if_pos c] at h1
        have S1 := hS.mono s1
        have rr : RpL X.K (hd H1 (ob hid own)) (ds ++ [x.2]) (us ++ [v]) := RpL.app (RpL.mono (hd_same s1) _ _ er) (RpL.one (r1.clean c.1))
        obtain ⟨w1, w2⟩ := S1.wrL ea rr
        exact ⟨a, us, v, rfl, rfl, s1 _ _ eh, by rw [er.len, sizeLine_eq]; exact c.2, h1 own σ _ ((Ext.same s1).trans w2) w1⟩
      · rw [if_neg c] at h1; exact h1.elim
  · exact h.elim
/-- name[e1] = e -/
def sSub (i : Nat) (fi fe : EF) : SF := fun ρ => match ρ[i]? with
  | some (some (true, .lst ds)) => sOf (fe ρ) ρ fun e => sOf (fi ρ) ρ fun k => match k.2 with
    | .int j => (match ixN ds.length j with | some n => if okE e = true then .nx (ρ.set i (some (true, .lst (ds.set n e.2)))) else .bad | none => .bad)
    | _ => .bad
  | _ => .bad
theorem ds_sub (i : Nat) {x : Str} {p tpos : Pos} {e1 : Expr} {fi : EF} (hv : PE X (.Name x p) (tVar i)) (hi : DE X W e1 fi) (he : DE X W e fe) (hs : swapsWithSole [.Subscript (.Name x p) e1 tpos] e pos.line X.env = pure false := by rfl) (hw : swappedStores [.Subscript (.Name x p) e1 tpos] e X.env = pure none := by rfl)
    (h1 : (assignEach [.Subscript (.Name x p) e1 tpos] X.env).map (·.2) = [assign (.Subscript (.Name x p) e1 tpos) X.env] := by rfl)
    (ha : ∀ v, assign (.Subscript (.Name x p) e1 tpos) X.env v = (do
      let ov ← holding [v] (eval (.Name x p) X.env)
      let iv ← holding [v, ov] (eval e1 X.env)
      standAt tpos
      holding [v, ov, iv] (setItem ov iv v)
      release [v, ov, iv] []) := by intro _; rfl) : DS X W (.Assign [.Subscript (.Name x p) e1 tpos] e pos) (sSub i fi fe) := by
  refine imp_ps (ps_asg he (pg_sub hv hi set_list ha) hs hw h1) fun D σ H ⟨hid, own, ρ, hS, h⟩ => ?_
  unfold sSub at h
  split at h
  · rename_i ds ed
    obtain ⟨a, ea, es, us, eh, er⟩ := hS.ow i _ ed
    refine ⟨hid, own, ρ, hS, PostS.part hS h fun x H1 v s1 r1 h1 => ?_⟩
    have S1 := hS.mono s1
    refine ⟨_, es, hid, own, ρ, S1, PostS.part S1 (PostS.ext (Ext.same s1) h1) fun y H2 u s2 r2 h2 => ?_⟩
    obtain ⟨k, d⟩ := y
    cases d with
    | int j =>
      have h2 : PostS X.K X.mg W hid own H1 D (match ixN ds.length j with | some n => if okE x = true then .nx (ρ.set i (some (true, .lst (ds.set n x.2)))) else .bad | none => .bad) := h2
      cases en : ixN ds.length j with
      | none => rw [en] at h2; exact h2.elim
      | some n =>
        rw [en] at h2
        have h2 : PostS X.K X.mg W hid own H1 D (if okE x = true then .nx (ρ.set i (some (true, .lst (ds.set n x.2)))) else .bad) := h2
        split at h2
        · rename_i hok
          have S2 := S1.mono s2
          have rr : RpL X.K (hd H2 (ob hid own)) (ds.set n x.2) (us.set n v) := RpL.set (Rp.mono (hd_same s2) _ _ (r1.clean hok)) n (RpL.mono (hd_same (s1.trans s2)) _ _ er)
          obtain ⟨w1, w2⟩ := S2.wrL ea rr
          exact ⟨a, us, j, n, rfl, r2.rt, s2 _ _ (s1 _ _ eh), by rw [er.len]; exact en, h2 own σ _ ((Ext.same s2).trans w2) w1⟩
        · exact h2.elim
    | _ => exact h2.elim
  · exact h.elim

/-! ### loops -/
def forL (g : GF) (fb : SF) : List D → SF
  | [], ρ => .nx ρ
  | d :: ds, ρ => match g d ρ with
    | none => .bad
    | some ρ1 => match fb ρ1 with
      | .nx ρ2 => forL g fb ds ρ2
      | .ct ρ2 => forL g fb ds ρ2
      | .bk ρ2 => .nx ρ2
      | r => r
def sFor (fi : IF) (g : GF) (fb : SF) : SF := fun ρ => match fi ρ with
  | .ok (false, ds) => forL g fb ds ρ
  | .exc c => .exc c ρ
  | _ => .bad
theorem ds_for {tg iter : Expr} {body : List Stmt} {ss : List Nat} {fi : IF} {gf : GF} {fb : SF} (hp : PassesOwn (model X.prog X.w) X.A X.env X.xe) (hc : X.calm = true) (hi : DI X W tg iter fi) (hg : DG X tg ss gf) (hb : DSs X W body fb)
    (hs : ∀ x, foldedSetIterable iter X.env x = pure x := by intro _; rfl) : DS X W (.For tg iter body [] pos) (sFor fi gf fb) := by
  refine imp_ps (ps_for hp hc hi hg hb hs) fun D σ H ⟨hid, own, ρ, hS, h⟩ => ⟨hid, own, ρ, hS, ?_⟩
  unfold sFor at h
  cases e : fi ρ with
  | exc c => rw [e] at h; exact fun H1 s => h own σ H1 (Ext.same s) (hS.mono s)
  | bad => rw [e] at h; exact h.elim
  | ok p =>
    obtain ⟨pk, ds⟩ := p
    cases pk with
    | true => rw [e] at h; exact h.elim
    | false =>
      rw [e] at h
      have h : PostS X.K X.mg W hid own H D (forL gf fb ds ρ) := h
      intro H1 J s1 it
      have S1 := hS.mono s1
      refine ⟨fun i m σ' H' => m = ds.length - i ∧ i ≤ ds.length ∧ ∃ own' ρ', Ext own own' H1 H' ∧ SR X.K hid own' H' ρ' σ' ∧ PostS X.K X.mg W hid own' H' D (forL gf fb (ds.drop i) ρ'), ⟨ds.length, rfl, Nat.zero_le _, own, ρ, Ext.refl, S1, PostS.ext (Ext.same s1) h⟩, ?_⟩
      rintro i m σ2 H2 ⟨rfl, hle, own2, ρ2, x2, S2, h2⟩
      obtain ⟨stop, go⟩ := it i H2 (ob hid own2) (fun b o q => hd_le _ _ (x2.seen b o q)) x2.seen S2.dom
      by_cases hcI : i = ds.length
      · refine .inl ⟨stop hcI, ?_⟩
        rw [hcI, List.drop_length] at h2
        exact h2 own2 σ2 H2 Ext.refl S2
      · have hlt : i < ds.length := by omega
        obtain ⟨go1, go2⟩ := go _ (List.getElem?_eq_getElem hlt)
        have ed : ds.drop i = ds[i] :: ds.drop (i + 1) := (List.drop_eq_getElem_cons hlt)
        rw [ed] at h2
        refine .inr ⟨go1, fun σ' H' => ∃ own' ρ', Ext own own' H1 H' ∧ SR X.K hid own' H' ρ' σ' ∧ PostS X.K X.mg W hid own' H' D (forL gf fb (ds.drop (i + 1)) ρ'), fun σ' H' q => ⟨ds.length - (i + 1), by omega, rfl, hlt, q⟩, fun x H3 y => ?_⟩
        obtain ⟨s3, rx⟩ := go2 x H3 y
        have S3 := S2.mono s3
        refine ⟨hid, own2, ρ2, ds[i], S3, rx, ?_⟩
        unfold forL at h2
        cases eg : gf ds[i] ρ2 with
        | none => rw [eg] at h2; exact h2.elim
        | some ρ3 =>
          rw [eg] at h2
          intro own3 σ3 S4 le3 ge3 k3 l3
          have x3 : Ext own2 own3 H2 H3 := ⟨fun b o e _ => s3 b o e, fun j b e => .inl ⟨j, le3 j b e⟩, fun b e => s3.free e⟩
          refine ⟨hid, own3, ρ3, S4, ?_⟩
          have h2 : PostS X.K X.mg W hid own2 H2 D (match fb ρ3 with | .nx ρ2 => forL gf fb (ds.drop (i + 1)) ρ2 | .ct ρ2 => forL gf fb (ds.drop (i + 1)) ρ2 | .bk ρ2 => .nx ρ2 | r => r) := h2
          have h2 := PostS.ext x3 h2
          have x23 := x2.trans x3
          cases eb : fb ρ3 with
          | nx ρ4 => rw [eb] at h2; exact fun own4 σ4 H4 x4 S5 => ⟨own4, ρ4, x23.trans x4, S5, PostS.ext x4 h2⟩
          | ct ρ4 => rw [eb] at h2; exact fun own4 σ4 H4 x4 S5 => ⟨own4, ρ4, x23.trans x4, S5, PostS.ext x4 h2⟩
          | bk ρ4 => rw [eb] at h2; exact fun own4 σ4 H4 x4 S5 => h2 own4 σ4 H4 x4 S5
          | rt e4 => rw [eb] at h2; exact h2
          | exc c4 ρ4 => rw [eb] at h2; exact h2
          | bad => rw [eb] at h2; exact h2.elim
def whileL (t : TF) (fb : SF) : Nat → SF
  | 0, _ => .bad
  | n + 1, ρ => match t ρ with
    | .ok true => (match fb ρ with
      | .nx ρ2 => whileL t fb n ρ2
      | .ct ρ2 => whileL t fb n ρ2
      | .bk ρ2 => .nx ρ2
      | r => r)
    | .ok false => .nx ρ
    | .exc c => .exc c ρ
    | .bad => .bad
theorem ds_while (n : Nat) {c : Expr} {body : List Stmt} {t : TF} {fb : SF} (hp : PassesOwn (model X.prog X.w) X.A X.env X.xe) (hc : DT X W c t) (hb : DSs X W body fb) : DS X W (.While c body [] pos) (whileL t fb n) := by
  refine imp_ps (ps_while hp hc hb) fun D σ H ⟨hid, own, ρ, hS, h⟩ => ?_
  refine ⟨fun m σ' H' => ∃ own' ρ', Ext own own' H H' ∧ SR X.K hid own' H' ρ' σ' ∧ PostS X.K X.mg W hid own' H' D (whileL t fb m ρ'), ⟨n, own, ρ, Ext.refl, hS, h⟩, ?_⟩
  rintro m σ2 H2 ⟨own2, ρ2, x2, S2, h2⟩
  refine ⟨hid, own2, ρ2, S2, ?_⟩
  cases m with
  | zero => exact h2.elim
  | succ m =>
    unfold whileL at h2
    cases et : t ρ2 with
    | exc c => rw [et] at h2; exact fun H1 s => h2 own2 σ2 H1 (Ext.same s) (S2.mono s)
    | bad => rw [et] at h2; exact h2.elim
    | ok b =>
      rw [et] at h2
      intro H3 s3
      have S3 := S2.mono s3
      have h2 := PostS.ext (Ext.same s3) h2
      have x3 := x2.trans (Ext.same s3)
      cases b with
      | false => rw [if_neg Bool.false_ne_true]; exact h2 own2 σ2 H3 Ext.refl S3
      | true =>
        rw [if_pos rfl]
        refine ⟨fun σ' H' => ∃ own' ρ', Ext own own' H H' ∧ SR X.K hid own' H' ρ' σ' ∧ PostS X.K X.mg W hid own' H' D (whileL t fb m ρ'), fun σ' H' q => ⟨m, Nat.lt_succ_self m, q⟩, hid, own2, ρ2, S3, ?_⟩
        have h2 : PostS X.K X.mg W hid own2 H3 D (match fb ρ2 with | .nx ρ2 => whileL t fb m ρ2 | .ct ρ2 => whileL t fb m ρ2 | .bk ρ2 => .nx ρ2 | r => r) := h2
        cases eb : fb ρ2 with
        | nx ρ4 => rw [eb] at h2; exact fun own4 σ4 H4 x4 S5 => ⟨own4, ρ4, x3.trans x4, S5, PostS.ext x4 h2⟩
        | ct ρ4 => rw [eb] at h2; exact fun own4 σ4 H4 x4 S5 => ⟨own4, ρ4, x3.trans x4, S5, PostS.ext x4 h2⟩
        | bk ρ4 => rw [eb] at h2; exact fun own4 σ4 H4 x4 S5 => h2 own4 σ4 H4 x4 S5
        | rt e4 => rw [eb] at h2; exact h2
        | exc c4 ρ4 => rw [eb] at h2; exact h2
        | bad => rw [eb] at h2; exact h2.elim
end

/-! ### a def -/
def outE : Ev → Ev
  | (.fr, d) => (.fr, d)
  | (_, d) => (.cl, d)
def runB : SRes → R Ev
  | .rt e => .ok (outE e)
  | .nx _ => .ok (.cl, .non)
  | .exc c _ => .exc c
  | _ => .bad
def enter (N : Nat) (ds : List D) : Ro := ds.map (fun d => some (false, d)) ++ List.replicate (N - ds.length) none
def fnD (N n : Nat) (f : SF) : FD := fun ds => if ds.length = n then runB (f (enter N ds)) else .bad
theorem enter_sr {K : PySem.W.Frag} {hid : Addr → Prop} {H : Hp} {ds : List D} {vs : List V} {N : List Str} (hin : ∀ b, hid b → H b ≠ none) (r : RpL K (hd H hid) ds vs) : SR K hid noOwn H (enter N.length ds) (L2.start N vs) := by
  have hl := r.len
  refine ⟨by simp [enter, L2.start, hl], fun i d e => ?_, fun i d e => ?_, (fun i j a e => nomatch e), (fun i a e => nomatch e), hin⟩
  · unfold enter at e
    by_cases hi : i < ds.length
    · rw [List.getElem?_append_left (by simpa using hi), List.getElem?_map] at e
      cases ed : ds[i]? with
      | none => rw [ed] at e; cases e
      | some d' =>
        rw [ed] at e
        cases e
        obtain ⟨v, e1, e2⟩ := r.get ed
        refine ⟨v, ?_, Rp.mono hd_no _ _ e2⟩
        unfold L2.start
        rw [List.getElem?_append_left (by rw [List.length_map, hl]; exact hi), List.getElem?_map, e1]
        rfl
    · rw [List.getElem?_append_right (by simpa using hi), List.getElem?_replicate] at e
      split at e <;> cases e
  · unfold enter at e
    by_cases hi : i < ds.length
    · rw [List.getElem?_append_left (by simpa using hi), List.getElem?_map] at e
      cases ed : ds[i]? with
      | none => rw [ed] at e; cases e
      | some d' => rw [ed] at e; cases e
    · rw [List.getElem?_append_right (by simpa using hi), List.getElem?_replicate] at e
      split at e <;> cases e
theorem runB_post {K : PySem.W.Frag} {mg : Str → Option Value} {hid : Addr → Prop} {H : Hp} {Q : VK} {E : XK} {r : SRes} (h : Post K hid noOwn H (fun c H' => ∀ C, mg c = some (.ref C) → E (.ref C) none H') (runB r) Q) :
    PostS K mg (fun cls d _ H => E cls d H) hid noOwn H { nx := fun _ H' => Q .non H', rt := Q } r := by
  have sm : ∀ {own' : Own} {H' : Hp}, Ext noOwn own' H H' → Same H H' := fun x b o e => x.keep b o e fun i z => nomatch z
  cases r with
  | bad => exact h
  | bk ρ => exact h.elim
  | ct ρ => exact h.elim
  | nx ρ => exact fun own' σ' H' x S => h H' .non (sm x) rfl
  | exc c ρ => exact fun own' σ' H' x S C hC => h H' (sm x) C hC
  | rt e =>
    intro own' H' v x r
    refine h H' v (sm x) ?_
    obtain ⟨k, d⟩ := e
    cases k with
    | cl => exact Rp.mono hd_no _ _ r
    | pk => exact Rp.mono hd_no _ _ r
    | fr =>
      obtain ⟨a, e1, e2, e3, m⟩ := r
      exact ⟨a, e1, e2.elim (fun z => z) (fun ⟨i, z⟩ => nomatch z), fun z => e3 (ob_no.mp z), m.mono (hd_mono fun b o q n => ⟨q, fun z => n (z.elim (fun z => .inl (ob_no.mp z)) .inr)⟩)⟩
section
variable {P : Program} {w : World} {K : PySem.W.Frag} {mg : Str → Option Value} {base : Heap}
theorem fn_den {x qual : Str} {st : Stmt} {f : Addr} {fd : FuncData} {N ps : List Str} {k n : Nat} {fb : SF} (F : Fun K x qual st f fd) (S : FnScope N ps (defScope st)) (hn : ps.length = n)
    (hbody : ∀ (cdv : Value) (A : Around) (outer : List Env) (s : Shared) (H : Hp) (E : XK), Room k (A.deeper (PyProof.Rows.envOfC qual (defScope st) s.heap.objs.size f cdv)) → DSs (cxOf (L2.CX P w) P w K mg base N qual (defScope st) f cdv A outer s H E) (fun cls d _ H => E cls d H) (defBody st) fb) :
    FnOk P w K mg base (L2.CX P w) (k + 1) f fd ps (spD K mg n (fnD N.length n fb)) := by
  refine Fun.okX F S (fun vs H Q E ⟨hid, ds, _, r, hl, _⟩ => by rw [r.len, hl, hn]) fun cdv A outer s H vs Q E hr ⟨hid, ds, hin, r, hl, h⟩ => ?_
  refine ⟨_, hbody cdv A outer s H E hr, ?_⟩
  have e : fnD N.length n fb ds = runB (fb (enter N.length ds)) := if_pos hl
  rw [e] at h
  exact ⟨hid, noOwn, _, enter_sr hin r, runB_post h⟩
theorem fn_bad {f : Addr} {fd : FuncData} {ps : List Str} {k n : Nat} (hn : ps.length = n) : FnOk P w K mg base (L2.CX P w) k f fd ps (spD K mg n fun _ => .bad) :=
  ⟨fun vs H Q E ⟨hid, ds, _, r, hl, _⟩ => by rw [r.len, hl, hn], fun A outer s H args us vs Q E _ _ _ _ ⟨_, _, _, _, _, h⟩ => h.elim⟩
end
end PL
set_option Elab.async false
set_option linter.all false
set_option maxRecDepth 100000
set_option maxHeartbeats 4000000
/-! PL8: a text times a number; replace of written texts. -/
namespace PL
open PySem PySem.Spec L2

/-! ### a text * a number -/
def rMulS : R2 := fun x y H Q => ∃ a k, x = .str (S a) ∧ y = .int k ∧ k < 16777216 ∧ 0 ≤ k ∧ a.length * k.toNat ≤ 16777216 ∧ Q (.str (S (List.replicate k.toNat a).flatten)) H
theorem fold_rep (x : Array Nat) : ∀ (k : Nat) (acc : Array Nat), ((List.replicate k x).foldl (· ++ ·) acc).toList = acc.toList ++ (List.replicate k x.toList).flatten
  | 0, acc => by simp
  | k + 1, acc => by
    rw [List.replicate_succ, List.foldl_cons, fold_rep x k, List.replicate_succ, List.flatten_cons, Array.toList_append, List.append_assoc]
theorem op_mulS {X : Cx} : OpR X (binaryOp .Mult) rMulS := by
  intro pins s σ H x y v u Q I rx ry h
  obtain ⟨a, k, rfl, rfl, h1, h2, h3, q⟩ := h
  obtain ⟨t, rfl⟩ := rx
  obtain ⟨t', rfl⟩ := ry
  have hl : (S a).length = a.length := S_len a
  refine P.mul_str ?_ (fun k1 k2 => ?_) (fun k1 k2 => ?_) ?_
  · have e1 : ¬ k < -(2 ^ 63 : Int) := by omega
    have e2 : ¬ k ≥ 2 ^ 63 := by omega
    rw [decide_eq_false e1, decide_eq_false e2]; rfl
  · rw [hl]
    have ek : k = (k.toNat : Int) := (Int.toNat_of_nonneg h2).symm
    have hk : 0 < k := by omega
    have : (a.length : Int) ≤ (2 ^ 63 - 1) / k := by
      refine (Int.le_ediv_iff_mul_le hk).mpr ?_
      have : ((a.length * k.toNat : Nat) : Int) ≤ ((16777216 : Nat) : Int) := Int.ofNat_le.mpr h3
      rw [Int.natCast_mul, ← ek] at this
      omega
    omega
  · rw [hl]
    show decide (a.length * k.toNat > sizeLine) = false
    rw [sizeLine_eq]
    exact decide_eq_false (by omega)
  · have fin : ∀ z : Str, z = S (List.replicate k.toNat a).flatten → ∀ s' : Shared, Inv X pins σ H s' → ∀ t'', EP X pins σ Q (.str z t'') s' := fun z e s' I' t'' => ⟨.str z, H, I', ⟨t'', rfl⟩, by rw [e]; exact q⟩
    by_cases c1 : k < 1
    · rw [if_pos c1]
      have : k.toNat = 0 := by omega
      exact ⟨by decide, fin _ (by rw [this]; rfl) _ (I.tok _) _⟩
    · rw [if_neg c1]
      by_cases c2 : (k == 1 || (S a).length == 0) = true
      · rw [if_pos c2]
        refine fin _ ?_ s I t
        rw [Bool.or_eq_true, beq_iff_eq, beq_iff_eq, hl] at c2
        rcases c2 with c | c
        · rw [c]; exact congrArg S (show a = (List.replicate 1 a).flatten from (List.append_nil a).symm)
        · have : a = [] := List.length_eq_zero_iff.mp c
          subst this
          congr 1
          exact (List.flatten_eq_nil_iff.mpr fun l hl => (List.eq_of_mem_replicate hl)).symm
      · rw [if_neg c2]
        have e : (⟨(List.replicate k.toNat (S a).cps).foldl (· ++ ·) #[]⟩ : Str) = S (List.replicate k.toNat a).flatten := TL.ext_tl (by
          show ((List.replicate k.toNat (S a).cps).foldl (· ++ ·) #[]).toList = _
          rw [fold_rep, S_cps]
          exact (List.nil_append _).trans (S_cps _).symm)
        refine ⟨?_, fin _ e _ (I.tok _) _⟩
        rw [e, S_len, sizeLine_eq]
        rw [List.length_flatten, List.map_replicate, List.sum_replicate_nat]
        rw [Nat.mul_comm]; exact h3
def gMulS : D → D → R Ev
  | .str a, .int k => if k < 16777216 ∧ 0 ≤ k ∧ a.length * k.toNat ≤ 16777216 then .ok (.cl, .str (List.replicate k.toNat a).flatten) else .bad
  | _, _ => .bad
theorem opg_mulS {K : PySem.W.Frag} : OpG K rMulS gMulS := by
  intro hid own H Wx x y dx dy Q hb rx ry q
  unfold gMulS at q
  split at q
  · split at q
    · rename_i h
      exact ⟨_, _, rx, ry, h.1, h.2.1, h.2.2, q.now rfl⟩
    · exact q.elim
  · exact q.elim
section
variable {X : Cx} {W : WX} {a b : Expr} {fa fb : EF} {pos : Pos}
theorem de_mulS (ha : DE X W a fa) (hb : DE X W b fb) : DE X W (.BinOp a .Mult b pos) (op2 gMulS fa fb) := de_op op_mulS opg_mulS ha hb
end

/-! ### with one token out -/
def DET (X : Cx) (W : WX) (e : Expr) (f : EF) : Prop := PET X e (tE X.K X.mg W f)
def DST (X : Cx) (W : WX) (st : Stmt) (f : SF) : Prop := PST X st (tS X.K X.mg W f)
def DSsT (X : Cx) (W : WX) (st : List Stmt) (f : SF) : Prop := PSsT X st (tS X.K X.mg W f)
def DAT (X : Cx) (W : WX) (es : List Expr) (f : AF) : Prop := PAT X es (tA X.K X.mg W f)
theorem imp_pet {X : Cx} {e : Expr} {t t' : TE} (h : PET X e t) (k : ∀ σ H Q, t' σ H Q → t σ H Q) : PET X e t' := fun pins s σ H Q h0 I q => h pins s σ H Q h0 I (k _ _ _ q)
theorem imp_pat {X : Cx} {e : List Expr} {t t' : TA} (h : PAT X e t) (k : ∀ σ H Q, t' σ H Q → t σ H Q) : PAT X e t' := fun pos pins s σ H Q h0 I q => h pos pins s σ H Q h0 I (k _ _ _ q)
theorem imp_pst {X : Cx} {e : Stmt} {t t' : TS} (h : PST X e t) (k : ∀ D σ H, t' D σ H → t D σ H) : PST X e t' := fun pins s σ H D h0 I q => h pins s σ H D h0 I (k _ _ _ q)
theorem imp_psst {X : Cx} {e : List Stmt} {t t' : TS} (h : PSsT X e t) (k : ∀ D σ H, t' D σ H → t D σ H) : PSsT X e t' := fun pins s σ H D h0 I q => h pins s σ H D h0 I (k _ _ _ q)
def gRepl (y z : List Nat) : D → R Ev
  | .str a => if a.length + (a.length + 1) * z.length ≤ 16777216 then .ok (.cl, .str (StrLaws.replL y z a)) else .bad
  | _ => .bad
theorem repl_S {y z a : List Nat} (hy : 1 ≤ y.length) : Txt.replace (S a) (S y) (S z) = S (StrLaws.replL y z a) := TL.ext_tl (by
  show (Txt.replace (S a) (S y) (S z)).cps.toList = _
  rw [StrLaws.replace_list (by rw [S_len]; exact hy), S_cps, S_cps, S_cps]
  exact (S_cps _).symm)
theorem repl_den {X : Cx} {W : WX} {fo : EF} {ys zs : Str} {y z : List Nat} (ey : ys = S y) (ez : zs = S z) (hy : 1 ≤ y.length) : ∀ σ H Q, tE X.K X.mg W (op1 (gRepl y z) fo) σ H Q → CwR.tReplC (tE X.K X.mg W fo) ys zs σ H Q := fun σ H Q ⟨hid, own, ρ, hS, h⟩ =>
  ⟨hid, own, ρ, hS, Post.part h fun e H1 v s1 r1 h1 => by
    subst ey ez
    obtain ⟨k, d⟩ := e
    cases d with
    | str a =>
      have h1 : Post X.K hid own H1 (Wc X.mg W σ) (if a.length + (a.length + 1) * z.length ≤ 16777216 then .ok (.cl, .str (StrLaws.replL y z a)) else .bad) Q := h1
      split at h1
      · rename_i hz
        refine ⟨S a, r1.rt, by rw [S_len, S_len]; exact hz, ?_⟩
        rw [repl_S hy]
        exact h1.now rfl
      · exact h1.elim
    | _ => exact h1.elim⟩
section
variable {X : Cx} {W : WX} {o e a b : Expr} {fo fe fa fb : EF} {j k : Nat} {c0 c1 apos pos : Pos} {ys zs : Str}
theorem det_of (h : DE X W e fe) : DET X W e fe := fun pins s σ H Q _ I q => h.run pins s σ H Q I q
theorem det_repl (y z : List Nat) (ho : DET X W o fo) (ey : ys = S y := by decide +kernel) (ez : zs = S z := by decide +kernel) (hy : 1 ≤ y.length := by decide) (hyz : (ys == zs) = false := by decide)
    (hst : starEach [.Constant (.str ys) j c0, .Constant (.str zs) k c1] X.env = [(false, eval (.Constant (.str ys) j c0) X.env), (false, eval (.Constant (.str zs) k c1) X.env)] := by rfl)
    (hbase : attributeBase o "replace" X.env (eval o X.env) = eval o X.env := by rfl) (hline : (apos.endLine == pos.line) = true := by rfl) :
    DET X W (.Call (.Attribute o "replace" apos) [.Constant (.str ys) j c0, .Constant (.str zs) k c1] [] pos) (op1 (gRepl y z) fo) := imp_pet (CwR.pet_replT ho hyz hst hbase hline) (repl_den ey ez hy)
theorem det_add (ha : DET X W a fa) (hb : DET X W b fb) : DET X W (.BinOp a .Add b pos) (op2 gAdd fa fb) :=
  imp_pet (CwR.pet_op (op_add.or (op_add_str.or op_cat)) ha hb) (two (OpG.or (fun x _ => isI x) opg_I0 (OpG.or (fun x _ => isS x) opg_addS opg_addL)))
theorem dst_of {st : Stmt} {f : SF} (h : DS X W st f) : DST X W st f := fun pins s σ H D _ I q => h.run pins s σ H D I q
theorem dsst_of {st : List Stmt} {f : SF} (h : DSs X W st f) : DSsT X W st f := fun pins s σ H D _ I q => h.run pins s σ H D I q
theorem dsst_cons {st : Stmt} {sts : List Stmt} {f g : SF} (h1 : DST X W st f) (h2 : DSsT X W sts g) : DSsT X W (st :: sts) (sSeq f g) := imp_psst (psst_cons h1 h2) seqD
theorem dst_ret (he : DET X W e fe) : DST X W (.Return (some e) pos) (sRet fe) :=
  imp_pst (CwR.pst_ret he) fun D σ H ⟨hid, own, ρ, hS, h⟩ => ⟨hid, own, ρ, hS, PostS.part hS h fun x H1 v s1 r1 h1 => h1 own H1 v (Ext.same s1) (RX.of r1)⟩
theorem dst_set (i : Nat) {x : Str} {pos' : Pos} (hN : X.N.Nodup) (hi : X.N[i]? = some x) (hx : Loc X.env.scope x) (he : DET X W e fe) (hs : swapsWith e (some (.Name x pos')) pos.line X.env = pure false := by rfl) (hf : X.fn x = true ∨ X.env.scope.names.lookup x = some .local := by first | exact .inl rfl | exact .inr rfl | assumption) :
    DST X W (.Assign [.Name x pos'] e pos) (sSet i fe) := by
  intro pins s σ H D h0 I ⟨hid, own, ρ, hS, h⟩
  refine wpAny_Assign_Name (thn (he pins s σ H _ h0 I ⟨hid, own, ρ, hS, PostS.part (T := fun v H1 => D.nx (σ.set i (some v)) H1) hS h fun x H1 v s1 r1 h1 => setSl_ok hS s1 r1 h1⟩) fun v s1 ⟨y, H1, I1, r1, q1⟩ => ?_) hs
  exact store_ok I1 hN hi hx r1 (fun s2 I2 => ⟨_, H1, I2, q1⟩) hf
end
section
variable {P : Program} {w : World} {K : PySem.W.Frag} {mg : Str → Option Value} {base : Heap}
theorem fn_denT {x qual : Str} {st : Stmt} {f : Addr} {fd : FuncData} {N ps : List Str} {k n : Nat} {fb : SF} (F : Fun K x qual st f fd) (S : FnScope N ps (defScope st)) (hn : ps.length = n) (hnc : ∀ y ∈ (defScope st).names, y.2 ≠ .cell) (h1 : 1 ≤ n)
    (hbody : ∀ (cdv : Value) (A : Around) (outer : List Env) (s : Shared) (H : Hp) (E : XK), Room k (A.deeper (PyProof.Rows.envOfC qual (defScope st) s.heap.objs.size f cdv)) → DSsT (cxOf (L2.CX P w) P w K mg base N qual (defScope st) f cdv A outer s H E) (fun cls d _ H => E cls d H) (defBody st) fb) :
    FnOk P w K mg base (L2.CX P w) (k + 1) f fd ps (spD K mg n (fnD N.length n fb)) := by
  obtain ⟨oc, od, kV, doc, pm, an, cdv, ct, osl, rfl, lk, hcd⟩ := F.ex
  refine fn_ofT lk hcd S hnc (by rw [hn]; exact h1) (fun vs H Q E ⟨hid, ds, _, r, hl, _⟩ => by rw [r.len, hl, hn]) fun A outer s H vs Q E hr ⟨hid, ds, hin, r, hl, h⟩ => ?_
  refine ⟨_, hbody cdv A outer s H E hr, ?_⟩
  have e : fnD N.length n fb ds = runB (fb (enter N.length ds)) := if_pos hl
  rw [e] at h
  exact ⟨hid, noOwn, _, enter_sr hin r, runB_post h⟩
end
end PL
set_option Elab.async false
set_option linter.all false
set_option maxRecDepth 100000
set_option maxHeartbeats 4000000
/-! PL9: the built-in functions by name. -/
namespace PL
open PySem PySem.Spec L2
theorem bt_len : bootBuiltins "len" = some (.builtin "len") := by decide +kernel
theorem bt_int : bootBuiltins "int" = some (.type "int") := by decide +kernel
theorem bt_str : bootBuiltins "str" = some (.type "str") := by decide +kernel
theorem bt_ord : bootBuiltins "ord" = some (.builtin "ord") := by decide +kernel
theorem bt_sum : bootBuiltins "sum" = some (.builtin "sum") := by decide +kernel
theorem bt_all : bootBuiltins "all" = some (.builtin "all") := by decide +kernel
theorem bt_any : bootBuiltins "any" = some (.builtin "any") := by decide +kernel
theorem bt_list : bootBuiltins "list" = some (.type "list") := by decide +kernel
theorem bt_tuple : bootBuiltins "tuple" = some (.type "tuple") := by decide +kernel
theorem bt_max : bootBuiltins "max" = some (.builtin "max") := by decide +kernel
theorem bt_bool : bootBuiltins "bool" = some (.type "bool") := by decide +kernel
theorem bt_isi : bootBuiltins "isinstance" = some (.builtin "isinstance") := by decide +kernel
section
variable {X : Cx} {W : WX} {e e' : Expr} {fa fb : EF} {p pos q : Pos}
theorem de_len (hg : Gl X "len") (hm : X.mg "len" = none) (ha : DE X W e fa) (hs : starEach [e] X.env = (false, eval e X.env) :: starEach [] X.env := by rfl) : DE X W (.Call (.Name "len" p) [e] [] pos) (op1 gLen fa) := de_callB call_len cg_len hg hm bt_len ha hs
theorem de_intc (hg : Gl X "int") (hm : X.mg "int" = none) (ha : DE X W e fa) (hs : starEach [e] X.env = (false, eval e X.env) :: starEach [] X.env := by rfl) : DE X W (.Call (.Name "int" p) [e] [] pos) (op1 gInt fa) := de_callT call_int1 cg_int hg hm bt_int ha hs
theorem de_strc (hg : Gl X "str") (hm : X.mg "str" = none) (ha : DE X W e fa) (hs : starEach [e] X.env = (false, eval e X.env) :: starEach [] X.env := by rfl) : DE X W (.Call (.Name "str" p) [e] [] pos) (op1 gStr fa) := de_callT call_str_int cg_str hg hm bt_str ha hs
theorem de_ord (hg : Gl X "ord") (hm : X.mg "ord" = none) (ha : DE X W e fa) (hs : starEach [e] X.env = (false, eval e X.env) :: starEach [] X.env := by rfl) : DE X W (.Call (.Name "ord" p) [e] [] pos) (op1 gOrd fa) := de_callB call_ord cg_ord hg hm bt_ord ha hs
theorem de_sum (hc : X.calm = true) (hg : Gl X "sum") (hm : X.mg "sum" = none) (ha : DE X W e fa) (hs : starEach [e] X.env = (false, eval e X.env) :: starEach [] X.env := by rfl) : DE X W (.Call (.Name "sum" p) [e] [] pos) (op1 gSum fa) := de_callB (cr_sum hc) cg_sum hg hm bt_sum ha hs
theorem de_listc (hg : Gl X "list") (hm : X.mg "list" = none) (ha : DE X W e fa) (hs : starEach [e] X.env = (false, eval e X.env) :: starEach [] X.env := by rfl) : DE X W (.Call (.Name "list" p) [e] [] pos) (op1 gList fa) := de_callT call_list_of cg_list hg hm bt_list ha hs
theorem de_tuplec (hg : Gl X "tuple") (hm : X.mg "tuple" = none) (ha : DE X W e fa) (hs : starEach [e] X.env = (false, eval e X.env) :: starEach [] X.env := by rfl) : DE X W (.Call (.Name "tuple" p) [e] [] pos) (op1 gTuple fa) := de_callT call_tuple_of cg_tuple hg hm bt_tuple ha hs
theorem de_max2 (hc : X.calm = true) (hg : Gl X "max") (hm : X.mg "max" = none) (ha : DE X W e fa) (hb : DE X W e' fb) (hs : starEach [e, e'] X.env = (false, eval e X.env) :: starEach [e'] X.env := by rfl) (hs' : starEach [e'] X.env = (false, eval e' X.env) :: starEach [] X.env := by rfl)
    (hpl : (backTo pos (starEach [e'] X.env)).any (·.1) = false := by rfl) : DE X W (.Call (.Name "max" p) [e, e'] [] pos) (op2 gMax2 fa fb) := de_callB2 (call_max2 hc) cg_max2 hg hm bt_max ha hb hs hs' hpl
theorem de_all (hc : X.calm = true) (hg : Gl X "all") (hm : X.mg "all" = none) (ha : DE X W e fa) (hs : starEach [e] X.env = (false, eval e X.env) :: starEach [] X.env := by rfl) : DE X W (.Call (.Name "all" p) [e] [] pos) (op1 (gAllAny true) fa) := de_callB (cr_all hc) cg_all hg hm bt_all ha hs
theorem de_any (hc : X.calm = true) (hg : Gl X "any") (hm : X.mg "any" = none) (ha : DE X W e fa) (hs : starEach [e] X.env = (false, eval e X.env) :: starEach [] X.env := by rfl) : DE X W (.Call (.Name "any" p) [e] [] pos) (op1 (gAllAny false) fa) := de_callB (cr_any hc) cg_any hg hm bt_any ha hs
theorem k_list : ∀ d, isO d = false → kitB (dty d) "list" = some (inst "list" d) := kit_all "list" (by decide +kernel)
theorem k_tuple : ∀ d, isO d = false → kitB (dty d) "tuple" = some (inst "tuple" d) := kit_all "tuple" (by decide +kernel)
theorem k_bool : ∀ d, isO d = false → kitB (dty d) "bool" = some (inst "bool" d) := kit_all "bool" (by decide +kernel)
theorem k_int : ∀ d, isO d = false → kitB (dty d) "int" = some (inst "int" d) := kit_all "int" (by decide +kernel)
theorem k_str : ∀ d, isO d = false → kitB (dty d) "str" = some (inst "str" d) := kit_all "str" (by decide +kernel)
end
theorem un_of {A : Around} {k : Nat} (hr : Room k A) : A.units + 64 < cLine := Nat.lt_of_le_of_lt (by omega) hr.un
end PL
set_option Elab.async false
set_option linter.all false
set_option maxRecDepth 100000
set_option maxHeartbeats 4000000
/-! PE1: what denotations answer: rules with side conditions. -/
namespace PL
open PySem PySem.Spec L2

section
variable {ρ : Ro} {fa fb : EF} {k k1 k2 : Kd} {x y : D} {r : R Ev}
theorem lcF_ok {f : IF} {vs : List Nat} {g : GF} {tt : TF} {el : EF} {p : Bool × List D} {ys : List D} (hf : f ρ = .ok p) (hz : p.2.length ≤ 16777216) (hl : lcA (turnD g tt el (wipeR ρ vs)) p.2 = .ok ys) : lcF f vs g tt el ρ = .ok (.fr, .lst ys) := by
  unfold lcF
  rw [hf]
  show (if p.2.length ≤ 16777216 then _ else _) = _
  rw [if_pos hz, hl]
  rfl
theorem lcA_all {h : D → R (Option D)} {g : D → D} : ∀ {ds : List D}, (∀ d ∈ ds, h d = .ok (some (g d))) → lcA h ds = .ok (ds.map g)
  | [], _ => rfl
  | d :: ds, q => by
    unfold lcA
    rw [q d List.mem_cons_self, lcA_all fun e he => q e (List.mem_cons_of_mem _ he)]
    rfl
theorem lcA_map {α : Type} {h : D → R (Option D)} {k : α → D} {g : α → D} : ∀ {xs : List α}, (∀ a ∈ xs, h (k a) = .ok (some (g a))) → lcA h (xs.map k) = .ok (xs.map g)
  | [], _ => rfl
  | a :: xs, q => by
    rw [List.map_cons, List.map_cons]
    unfold lcA
    rw [q a List.mem_cons_self, lcA_map fun e he => q e (List.mem_cons_of_mem _ he)]
    rfl
theorem lcA_sift {α : Type} {h : D → R (Option D)} {k : α → D} {g : α → D} {p : α → Bool} : ∀ {xs : List α}, (∀ a ∈ xs, h (k a) = .ok (if p a = true then some (g a) else none)) → lcA h (xs.map k) = .ok ((xs.filter p).map g)
  | [], _ => rfl
  | a :: xs, q => by
    rw [List.map_cons]
    unfold lcA
    rw [q a List.mem_cons_self, lcA_sift fun e he => q e (List.mem_cons_of_mem _ he)]
    cases c : p a with
    | true => rw [List.filter_cons_of_pos c]; rfl
    | false => rw [List.filter_cons_of_neg (by rw [c]; exact Bool.false_ne_true)]; rfl
/-- a turn of a comprehension -/
theorem turn_ok {g : GF} {tt : TF} {el : EF} {ρ0 ρ1 : Ro} {d : D} {e : Ev} (hg : g d ρ0 = some ρ1) (ht : tt ρ1 = .ok true) (he : el ρ1 = .ok e) (hk : okE e = true) : turnD g tt el ρ0 d = .ok (some e.2) := by
  unfold turnD
  simp only [hg, ht, he, hk, R.calm_ok, R.bind_ok, if_true]
theorem turn_no {g : GF} {tt : TF} {el : EF} {ρ0 ρ1 : Ro} {d : D} (hg : g d ρ0 = some ρ1) (ht : tt ρ1 = .ok false) : turnD g tt el ρ0 d = .ok none := by
  unfold turnD
  simp only [hg, ht, R.calm_ok, R.bind_ok, Bool.false_eq_true, if_false]
theorem op2_ok {g : D → D → R Ev} (ha : fa ρ = .ok (k1, x)) (hb : fb ρ = .ok (k2, y)) (hg : g x y = r) : op2 g fa fb ρ = r := by
  unfold op2; rw [ha, R.bind_ok, hb, R.bind_ok]; exact hg
theorem op1_ok {g : D → R Ev} (ha : fa ρ = .ok (k1, x)) (hg : g x = r) : op1 g fa ρ = r := by
  unfold op1; rw [ha, R.bind_ok]; exact hg
theorem mth1_ok {g : D → D → R Ev} {a : List Nat} (ha : fa ρ = .ok (k1, .str a)) (hb : fb ρ = .ok (k2, y)) (hg : g (.str a) y = r) : mth1 g fa fb ρ = r := by
  unfold mth1; rw [ha, R.bind_ok]
  show (if true = true then _ else _) = _
  rw [if_pos rfl, hb, R.bind_ok]; exact hg
theorem t2_ok {g : D → D → R Ev} {b : Bool} (ha : fa ρ = .ok (k1, x)) (hb : fb ρ = .ok (k2, y)) (hg : g x y = .ok (k, .bl b)) : t2 g fa fb ρ = .ok b := by
  unfold t2; rw [op2_ok ha hb hg]; rfl
theorem gAdd_s {a b : List Nat} (h : a.length + b.length ≤ 16777216) : gAdd (.str a) (.str b) = .ok (.cl, .str (a ++ b)) := by rw [gAdd_str, if_pos h]
theorem gAdd_l {a b : List D} (h : a.length + b.length ≤ 16777216) : gAdd (.lst a) (.lst b) = .ok (.fr, .lst (a ++ b)) := by rw [gAdd_lst, if_pos h]
theorem gLen_s {a : List Nat} (h : a.length ≤ 16777216) : gLen (.str a) = .ok (.cl, .int a.length) := if_pos h
theorem gSl_s {a : List Nat} {lo hi : Option Int} (h : a.length ≤ 16777216) : gSl (.str a) lo hi = .ok (.cl, .str (cutL a lo hi)) := if_pos h
theorem gTru_s {a : List Nat} (h : a.length ≤ 16777216) : gTru (.str a) = .ok (!a.isEmpty) := if_pos h
theorem gMul_i {i j : Int} (h : -(2 ^ 64) < j ∧ j < 2 ^ 64) : gMulI (.int i) (.int j) = .ok (.cl, .int (i * j)) := if_pos (by
  unfold cMul
  rw [Bool.or_eq_true, decide_eq_true_eq, decide_eq_true_eq]
  exact .inr h)
theorem gMul_i' {i j : Int} (h : -(2 ^ 64) < i ∧ i < 2 ^ 64) : gMulI (.int i) (.int j) = .ok (.cl, .int (i * j)) := if_pos (by
  unfold cMul
  rw [Bool.or_eq_true, decide_eq_true_eq, decide_eq_true_eq]
  exact .inl h)
theorem gMod_i {i j : Int} (h : 0 < j) : gMod (.int i) (.int j) = .ok (.cl, .int (i % j)) := if_pos (decide_eq_true h)
theorem gFdiv_i {i j : Int} (h : 0 < j ∧ j < 1073741824) : gFdiv (.int i) (.int j) = .ok (.cl, .int (i / j)) := if_pos (decide_eq_true h)
theorem gPow_i {i j : Int} (h : 0 ≤ j ∧ j ≤ 1000000 ∧ i.natAbs < 2 ^ 64) : gPow (.int i) (.int j) = .ok (.cl, .int (i ^ j.toNat)) := if_pos (decide_eq_true h)
theorem gSub_i {i j : Int} : gSub (.int i) (.int j) = .ok (.cl, .int (i - j)) := rfl
theorem gAdd_i {i j : Int} : gAdd (.int i) (.int j) = .ok (.cl, .int (i + j)) := rfl
theorem gMulS_ok {a : List Nat} {n : Nat} (h : n < 16777216 ∧ a.length * n ≤ 16777216) : gMulS (.str a) (.int n) = .ok (.cl, .str (List.replicate n a).flatten) := by
  show (if (n : Int) < 16777216 ∧ 0 ≤ (n : Int) ∧ a.length * (n : Int).toNat ≤ 16777216 then R.ok (Kd.cl, D.str (List.replicate (n : Int).toNat a).flatten) else .bad) = _
  rw [Int.toNat_natCast, if_pos ⟨by omega, Int.natCast_nonneg n, h.2⟩]
theorem nn64 {n : Nat} (h : n < 2 ^ 64) : 0 ≤ (n : Int) ∧ (n : Int) < 2 ^ 64 := ⟨Int.natCast_nonneg n, by omega⟩
theorem gStr_ok {n : Nat} (h : n < 2 ^ 64) : gStr (.int n) = .ok (.cl, .str (TL.numL n)) := by
  have q := nn64 h
  unfold gStr
  simp only [q, and_self, if_true, Int.toNat_natCast]
theorem gSplit_ok {a b : List Nat} (h : a.length + 2 ≤ 16777216) (hb : b ≠ []) (hk : all256 b = true) : gSplit (.str a) (.str b) = .ok (.fr, .lst ((TL.spl b 0 [] a).map D.str)) := if_pos ⟨h, hb, hk⟩
theorem gPart_ok {a b : List Nat} (h : a.length ≤ 16777216) (hb : b ≠ []) : gPart (.str a) (.str b) = .ok (.cl, match TL.par b [] a with
      | some (p, q) => .tup [.str p, .str b, .str q]
      | none => .tup [.str a, .str [], .str []]) := if_pos ⟨h, hb⟩
theorem gJoin_l {a : List Nat} {ns : List (List Nat)} (h : joinSize a ns ≤ 16777216) : gJoin (.str a) (.lst (ns.map D.str)) = .ok (.cl, .str (TL.joinL a ns)) := by
  show joinR a (ns.map D.str) = _
  unfold joinR
  rw [unS_map]
  exact if_pos h
theorem gRepl_ok {y z a : List Nat} (h : a.length + (a.length + 1) * z.length ≤ 16777216) : gRepl y z (.str a) = .ok (.cl, .str (StrLaws.replL y z a)) := if_pos h
theorem fFmt_s {a : List Nat} (ha : fa ρ = .ok (k, .str a)) (h : a.length ≤ 16777216) : fFmt fa ρ = .ok (.cl, .str a) := op1_ok ha (if_pos h)
theorem fFmt_i {n : Nat} (ha : fa ρ = .ok (k, .int n)) (h : n < 2 ^ 64) : fFmt fa ρ = .ok (.cl, .str (TL.numL n)) := op1_ok ha (by
  show (if 0 ≤ (n : Int) ∧ (n : Int) < 2 ^ 64 then R.ok (Kd.cl, D.str (TL.numL (n : Int).toNat)) else .bad) = _
  rw [Int.toNat_natCast]
  exact if_pos (nn64 h))
theorem eFs_cons {f : EF} {fs : List EF} {acc y : List Nat} (hf : f ρ = .ok (k, .str y)) (h : (acc ++ y).length ≤ 16777216) : eFs (f :: fs) acc ρ = eFs fs (acc ++ y) ρ := by
  show (f ρ).bind _ = _
  rw [hf]
  exact if_pos h
theorem eFs_nil {acc : List Nat} : eFs [] acc ρ = .ok (.cl, .str acc) := rfl
/-! subscripts -/
theorem ixN_nat {n i : Nat} (h : i < n) : ixN n (i : Int) = some i := by
  unfold ixN
  rw [if_pos (by omega), if_pos (by omega)]
  rfl
theorem atI_nat' {α : Type} {xs : List α} {i : Nat} {a : α} (h : xs[i]? = some a) : atI xs (i : Int) = some a := by
  unfold atI
  rw [ixN_nat (List.getElem?_eq_some_iff.mp h).1]
  exact h
theorem gIx_l {xs : List D} {i : Nat} {d : D} (h : xs[i]? = some d) : gIx (.lst xs) (.int i) = .ok (.cl, d) := by
  show (match atI xs (i : Int) with | some d => R.ok (Kd.cl, d) | none => .bad) = _
  rw [atI_nat' h]
theorem gIx_r {xs : List D} {i : Nat} {d : D} (h : xs[i]? = some d) : gIx (.rol xs) (.int i) = .ok (.cl, d) := by
  show (match atI xs (i : Int) with | some d => R.ok (Kd.cl, d) | none => .bad) = _
  rw [atI_nat' h]
theorem gIx_t {xs : List D} {i : Nat} {d : D} (h : xs[i]? = some d) : gIx (.tup xs) (.int i) = .ok (.cl, d) := by
  show (match atI xs (i : Int) with | some d => R.ok (Kd.cl, d) | none => .bad) = _
  rw [atI_nat' h]
theorem gIx_s {xs : List Nat} {i c : Nat} (hz : xs.length ≤ 16777216) (h : xs[i]? = some c) : gIx (.str xs) (.int i) = .ok (.cl, .str [c]) := by
  show (if xs.length ≤ 16777216 then (match atI xs (i : Int) with | some c => R.ok (Kd.cl, D.str [c]) | none => .bad) else .bad) = _
  rw [if_pos hz, atI_nat' h]
/-! slices -/
theorem sIx_n (n d i : Nat) : HT.sIx n d (some (i : Int)) = min i n := HT.sIx_nat n d i
theorem cut_to {α : Type} (xs : List α) (i : Nat) : cutL xs (some 0) (some (i : Int)) = xs.take i := by
  unfold cutL
  rw [sIx_n, show HT.sIx xs.length 0 (some (0 : Int)) = min 0 xs.length from HT.sIx_nat xs.length 0 0, Nat.zero_min, List.drop_zero, Nat.sub_zero]
  by_cases h : i ≤ xs.length
  · rw [Nat.min_eq_left h]
  · rw [Nat.min_eq_right (by omega), List.take_of_length_le (Nat.le_refl _), List.take_of_length_le (by omega)]
theorem cut_from {α : Type} (xs : List α) (i : Nat) : cutL xs (some (i : Int)) none = xs.drop i := by
  unfold cutL
  rw [sIx_n, HT.sIx_none]
  by_cases h : i ≤ xs.length
  · rw [Nat.min_eq_left h, List.take_of_length_le (by rw [List.length_drop]; exact Nat.le_refl _)]
  · rw [Nat.min_eq_right (by omega), List.drop_length, List.drop_eq_nil_of_le (by omega), List.take_nil]
theorem cut_mid {α : Type} (xs : List α) (i j : Nat) : cutL xs (some (i : Int)) (some (j : Int)) = (xs.take j).drop i := by
  unfold cutL
  rw [sIx_n, sIx_n, List.drop_take]
  by_cases h : i ≤ xs.length
  · rw [Nat.min_eq_left h]
    by_cases h2 : j ≤ xs.length
    · rw [Nat.min_eq_left h2]
    · rw [Nat.min_eq_right (by omega : xs.length ≤ j), List.take_of_length_le (by rw [List.length_drop]; exact Nat.le_refl _), List.take_of_length_le (by rw [List.length_drop]; omega)]
  · rw [Nat.min_eq_right (by omega : xs.length ≤ i), List.drop_length, List.drop_eq_nil_of_le (by omega : xs.length ≤ i), List.take_nil, List.take_nil]
theorem cut_init {α : Type} (xs : List α) : cutL xs none (some (-1)) = xs.dropLast := by
  unfold cutL
  rw [HT.sIx_none]
  have : HT.sIx xs.length xs.length (some (-1)) = xs.length - 1 := by
    unfold HT.sIx
    cases xs with
    | nil => rfl
    | cons a r => simp; omega
  rw [this, List.drop_zero, Nat.sub_zero, List.dropLast_eq_take]
theorem cut_len {α : Type} (xs : List α) (lo hi : Option Int) : (cutL xs lo hi).length ≤ xs.length := by
  unfold cutL
  rw [List.length_take, List.length_drop]
  omega
/-! calls -/
theorem eCall_ok {f : FD} {n : Nat} {fs : AF} {es : List Ev} {ds : List D} {r : Ev} (ha : fs ρ = .ok es) (hd : es.map (·.2) = ds) (hn : es.length = n) (hf : f ds = .ok r) (hl : noLE r = true) : eCall f n fs ρ = .ok r := by
  subst hd
  unfold eCall
  rw [ha, R.bind_ok, if_pos hn, hf]
  cases es.any pkL with
  | true => rw [if_pos rfl]; exact if_pos hl
  | false => rw [if_neg Bool.false_ne_true]
theorem fn_ok {N n : Nat} {f : SF} {ds : List D} {ρ0 : Ro} {s : SRes} {q : R Ev} (hn : ds.length = n) (he : enter N ds = ρ0) (hb : f ρ0 = s) (hr : runB s = q) : fnD N n f ds = q := by
  unfold fnD
  rw [if_pos hn, he, hb, hr]
theorem sRet_ok {e : Ev} (h : fa ρ = .ok e) : sRet fa ρ = .rt e := by unfold sRet; rw [h]; rfl
theorem sRetV_l {i : Nat} {d : D} (h : ρ[i]? = some (some (true, d))) : sRetV i ρ = .rt (.fr, d) := by unfold sRetV; rw [h]
theorem sSet_f {i : Nat} {d : D} (h : fa ρ = .ok (.fr, d)) (hi : i < ρ.length) : sSet i fa ρ = .nx (ρ.set i (some (true, d))) := by unfold sSet; rw [h]; exact if_pos hi
theorem sSet_c {i : Nat} {d : D} (h : fa ρ = .ok (.cl, d)) : sSet i fa ρ = .nx (ρ.set i (some (false, d))) := by unfold sSet; rw [h]; rfl
theorem sSeq_n {f g : SF} {ρ1 : Ro} {s : SRes} (h : f ρ = .nx ρ1) (k : g ρ1 = s) : sSeq f g ρ = s := by unfold sSeq; rw [h]; exact k
theorem sSeq_r {f g : SF} {e : Ev} (h : f ρ = .rt e) : sSeq f g ρ = .rt e := by unfold sSeq; rw [h]
theorem sIf_t {t : TF} {f g : SF} {s : SRes} (h : t ρ = .ok true) (k : f ρ = s) : sIf t f g ρ = s := by unfold sIf; rw [h]; exact k
theorem sIf_f {t : TF} {f g : SF} {s : SRes} (h : t ρ = .ok false) (k : g ρ = s) : sIf t f g ρ = s := by unfold sIf; rw [h]; exact k
theorem sApp_ok {i : Nat} {ds : List D} {e : Ev} (hr : ρ[i]? = some (some (true, .lst ds))) (h : fa ρ = .ok e) (hk : okE e = true) (hz : ds.length < 16777216) : sApp i fa ρ = .nx (ρ.set i (some (true, .lst (ds ++ [e.2])))) := by
  unfold sApp; rw [hr]
  show sOf (fa ρ) ρ _ = _
  rw [h]
  exact if_pos ⟨hk, hz⟩
theorem sFor_ok {fi : IF} {g : GF} {fb : SF} {ds : List D} {s : SRes} (h : fi ρ = .ok (false, ds)) (k : forL g fb ds ρ = s) : sFor fi g fb ρ = s := by unfold sFor; rw [h]; exact k
theorem forL_n {g : GF} {fb : SF} {d : D} {ds : List D} {ρ1 ρ2 : Ro} {s : SRes} (hg : g d ρ = some ρ1) (hb : fb ρ1 = .nx ρ2) (k : forL g fb ds ρ2 = s) : forL g fb (d :: ds) ρ = s := by
  unfold forL; rw [hg]
  show (match fb ρ1 with | .nx ρ2 => forL g fb ds ρ2 | .ct ρ2 => forL g fb ds ρ2 | .bk ρ2 => .nx ρ2 | r => r) = s
  rw [hb]; exact k
theorem forL_r {g : GF} {fb : SF} {d : D} {ds : List D} {ρ1 : Ro} {e : Ev} (hg : g d ρ = some ρ1) (hb : fb ρ1 = .rt e) : forL g fb (d :: ds) ρ = .rt e := by
  unfold forL; rw [hg]
  show (match fb ρ1 with | .nx ρ2 => forL g fb ds ρ2 | .ct ρ2 => forL g fb ds ρ2 | .bk ρ2 => .nx ρ2 | r => r) = _
  rw [hb]
theorem tAnd_t {t u : TF} {b : Bool} (h : t ρ = .ok true) (k : u ρ = .ok b) : tAndF t u ρ = .ok b := by unfold tAndF; rw [h, R.bind_ok, if_pos rfl, k]
theorem tAnd_f {t u : TF} (h : t ρ = .ok false) : tAndF t u ρ = .ok false := by unfold tAndF; rw [h, R.bind_ok, if_neg Bool.false_ne_true]
theorem tOr_t {t u : TF} (h : t ρ = .ok true) : tOrF t u ρ = .ok true := by unfold tOrF; rw [h, R.bind_ok, if_pos rfl]
theorem tOr_f {t u : TF} {b : Bool} (h : t ρ = .ok false) (k : u ρ = .ok b) : tOrF t u ρ = .ok b := by unfold tOrF; rw [h, R.bind_ok, if_neg Bool.false_ne_true, k]
theorem tOr_ok {t u : TF} {a b : Bool} (h : t ρ = .ok a) (k : u ρ = .ok b) : tOrF t u ρ = .ok (a || b) := by cases a; exact tOr_f h k; exact tOr_t h
theorem tNot_ok {t : TF} {b : Bool} (h : t ρ = .ok b) : tNotF t ρ = .ok (!b) := by unfold tNotF; rw [h, R.bind_ok]
theorem tVal_b {b : Bool} (h : fa ρ = .ok (k, .bl b)) : tVal fa ρ = .ok b := by unfold tVal; rw [h, R.bind_ok]; rfl
theorem eIf_t {t : TF} {q : R Ev} (h : t ρ = .ok true) (k : fa ρ = q) : eIf t fa fb ρ = q := by unfold eIf; rw [h, R.bind_ok, if_pos rfl, k]
theorem eIf_f {t : TF} {q : R Ev} (h : t ρ = .ok false) (k : fb ρ = q) : eIf t fa fb ρ = q := by unfold eIf; rw [h, R.bind_ok, if_neg Bool.false_ne_true, k]
theorem gEq_s {a b : List Nat} : gEq (.str a) (.str b) = .ok (.cl, .bl (a == b)) := rfl
theorem gNe_s {a b : List Nat} : gNe (.str a) (.str b) = .ok (.cl, .bl (!(a == b))) := rfl
theorem gEq_i {a b : Int} : gEq (.int a) (.int b) = .ok (.cl, .bl (a == b)) := rfl
theorem gNe_i {a b : Int} : gNe (.int a) (.int b) = .ok (.cl, .bl (!(a == b))) := rfl
theorem aCons_ok {fs : AF} {e : Ev} {es : List Ev} (ha : fa ρ = .ok e) (hs : fs ρ = .ok es) : aCons fa fs ρ = .ok (e :: es) := by
  unfold aCons; rw [ha, R.bind_ok, hs, R.bind_ok]
theorem disp_ok {mk : List D → Ev} {fs : AF} {es : List Ev} {ds : List D} (hs : fs ρ = .ok es) (hk : es.all okE = true) (hn : es.length ≤ 16777216) (hd : es.map (·.2) = ds) : disp mk fs ρ = .ok (mk ds) := by
  subst hd
  unfold disp; rw [hs, R.bind_ok]
  exact if_pos ⟨hk, hn⟩
theorem noLs_strs (ns : List (List Nat)) : noLs (ns.map D.str) = true := by
  induction ns with
  | nil => rfl
  | cons n r ih =>
    show (noL (.str n) && noLs (r.map D.str)) = true
    rw [ih]; rfl
theorem noLs_ints (ns : List Int) : noLs (ns.map D.int) = true := by
  induction ns with
  | nil => rfl
  | cons n r ih =>
    show (noL (.int n) && noLs (r.map D.int)) = true
    rw [ih]; rfl
end
end PL
set_option Elab.async false
set_option linter.all false
set_option maxRecDepth 100000
set_option maxHeartbeats 4000000
/-! PL10: membership, find, index, written dicts, raise. -/
namespace PL
open PySem PySem.Spec L2 He

/-! ### in, not in -/
def gInS (neg : Bool) : D → D → R Ev
  | .str [c], .str z => .ok (.cl, .bl (if neg then !decide (c ∈ z) else decide (c ∈ z)))
  | _, _ => .bad
theorem S1 (c : Nat) : (⟨#[c]⟩ : Str) = S [c] := rfl
theorem opg_inS {K : PySem.W.Frag} : OpG K (fun x y H Q => ∃ (c : Nat) (z : Str), x = .str ⟨#[c]⟩ ∧ y = .str z ∧ Q (.bl (decide (c ∈ z.cps.toList))) H) (gInS false) := by
  intro hid own H Wx x y dx dy Q hb rx ry q
  unfold gInS at q
  split at q
  · rename_i c z
    exact ⟨c, S z, rx, ry, q.now (by rw [S_cps]; rfl)⟩
  · exact q.elim
theorem opg_ninS {K : PySem.W.Frag} : OpG K (fun x y H Q => ∃ (c : Nat) (z : Str), x = .str ⟨#[c]⟩ ∧ y = .str z ∧ Q (.bl (!decide (c ∈ z.cps.toList))) H) (gInS true) := by
  intro hid own H Wx x y dx dy Q hb rx ry q
  unfold gInS at q
  split at q
  · rename_i c z
    exact ⟨c, S z, rx, ry, q.now (by rw [S_cps]; rfl)⟩
  · exact q.elim
def gInL (neg : Bool) : D → D → R Ev
  | .str x, .lst ds => match unS ds with
    | some ns => .ok (.cl, .bl (if neg then !ns.contains x else ns.contains x))
    | none => .bad
  | _, _ => .bad
theorem inV_strs (x : List Nat) : ∀ ns : List (List Nat), inV (.str (S x)) ((ns.map S).map V.str) = ns.contains x
  | [] => rfl
  | n :: r => by
    have ih := inV_strs x r
    unfold inV at ih ⊢
    rw [List.map_cons, List.map_cons, List.any_cons, ih, List.contains_cons]
    congr 1
    show (S n == S x) = (x == n)
    rw [Bool.eq_iff_iff, beq_iff_eq, beq_iff_eq]
    exact ⟨fun h => (S_inj h).symm, fun h => by rw [h]⟩
theorem flat_strs : ∀ ns : List (List Nat), ((ns.map S).map V.str).all flatV = true
  | [] => rfl
  | n :: r => by
    rw [List.map_cons, List.map_cons, List.all_cons, flat_strs r]
    rfl
theorem opg_inL {K : PySem.W.Frag} {neg : Bool} : OpG K (rIn K neg) (gInL neg) := by
  intro hid own H Wx x y dx dy Q hb rx ry q
  unfold gInL at q
  split at q
  · rename_i z ds
    split at q
    · rename_i ns en
      obtain ⟨a, vs, e1, e2, e3⟩ := ry
      rw [unS_some en] at e3
      have := e3.strs
      subst this
      refine ⟨a, _, e1, .inl (SqL.of (hd_le _ _ e2)), by rw [show x = _ from rx]; rfl, flat_strs ns, ?_⟩
      rw [show x = _ from rx, inV_strs]
      exact q.now rfl
    · exact q.elim
  · exact q.elim
def gIn (neg : Bool) : D → D → R Ev := fun x y => if isS y = true then gInS neg x y else gInL neg x y
section
variable {X : Cx} {W : WX} {a b : Expr} {fa fb : EF} {pos : Pos}
theorem de_in (ha : DE X W a fa) (hb : DE X W b fb) (hm : behindInMarks .In b = false := by rfl) : DE X W (.Compare a [.In] [b] pos) (op2 (gIn false) fa fb) := de_cmp (op_in_sign.or op_in_seq) (OpG.or (fun _ y => isS y) opg_inS opg_inL) ha hb hm
theorem de_nin (ha : DE X W a fa) (hb : DE X W b fb) (hm : behindInMarks .NotIn b = false := by rfl) : DE X W (.Compare a [.NotIn] [b] pos) (op2 (gIn true) fa fb) := de_cmp (op_notIn_sign.or op_notIn_seq) (OpG.or (fun _ y => isS y) opg_ninS opg_inL) ha hb hm
theorem dt_in (ha : DE X W a fa) (hb : DE X W b fb) (hm : behindInMarks .In b = false := by rfl) : DT X W (.Compare a [.In] [b] pos) (t2 (gIn false) fa fb) := dt_cmp (op_in_sign.or op_in_seq) (OpG.or (fun _ y => isS y) opg_inS opg_inL) ha hb hm
theorem dt_nin (ha : DE X W a fa) (hb : DE X W b fb) (hm : behindInMarks .NotIn b = false := by rfl) : DT X W (.Compare a [.NotIn] [b] pos) (t2 (gIn true) fa fb) := dt_cmp (op_notIn_sign.or op_notIn_seq) (OpG.or (fun _ y => isS y) opg_ninS opg_inL) ha hb hm
end

/-! ### the first place of a sign -/
/-- counted from i on -/
def fndL (c : Nat) : Nat → List Nat → Option Nat
  | _, [] => none
  | i, d :: r => if d = c then some i else fndL c (i + 1) r
theorem fndL_none {c : Nat} : ∀ {l : List Nat} {i : Nat}, c ∉ l → fndL c i l = none
  | [], _, _ => rfl
  | d :: r, i, h => by
    unfold fndL
    rw [if_neg fun e => h (by rw [e]; exact List.mem_cons_self)]
    exact fndL_none fun m => h (List.mem_cons_of_mem _ m)
theorem fndL_app {c : Nat} {r : List Nat} : ∀ {l : List Nat} {i : Nat}, c ∉ l → fndL c i (l ++ c :: r) = some (i + l.length)
  | [], i, _ => by
    show (if c = c then some i else _) = _
    rw [if_pos rfl]; rfl
  | d :: l, i, h => by
    show (if d = c then some i else fndL c (i + 1) (l ++ c :: r)) = _
    rw [if_neg fun e => h (by rw [e]; exact List.mem_cons_self), fndL_app fun m => h (List.mem_cons_of_mem _ m), List.length_cons]
    congr 1
    omega
theorem split_mem {c : Nat} : ∀ {l : List Nat}, c ∈ l → ∃ a b, l = a ++ c :: b ∧ c ∉ a
  | d :: r, h => by
    by_cases e : d = c
    · exact ⟨[], r, by rw [e]; rfl, List.not_mem_nil⟩
    · obtain ⟨a, b, e1, e2⟩ := split_mem ((List.mem_cons.mp h).resolve_left (Ne.symm e))
      exact ⟨d :: a, b, by rw [e1]; rfl, fun m => (List.mem_cons.mp m).elim (fun z => e z.symm) e2⟩
def fnd (c : Nat) (z : List Nat) (i : Nat) : Int := match fndL c i (z.drop i) with
  | some k => (k : Int)
  | none => -1
theorem getD_S (z : List Nat) (v : Nat) (h : v < z.length) : (S z).cps.getD v 0 = z[v] := by
  simp [S, Array.getD, h]
theorem find_S (c : Nat) (z : List Nat) (i : Nat) (hi : i ≤ z.length) : Txt.find3 (S z) (S [c]) (i : Int) = fnd c z i := by
  have hf : PySem.fromIndex (S z).length (i : Int) = i := by
    unfold PySem.fromIndex
    rw [if_neg (by omega)]
    rw [Int.max_eq_right (by omega)]
    rfl
  have hl := S_len z
  rcases StrLaws.find3_spec (S z) c (i : Int) with ⟨h, hn⟩ | ⟨k, h, h1, h2, h3, h4⟩
  · rw [← S1, h]
    unfold fnd
    rw [fndL_none fun m => ?_]
    obtain ⟨j, hj, e⟩ := List.mem_iff_getElem.mp m
    rw [List.length_drop] at hj
    rw [List.getElem_drop] at e
    exact hn (i + j) (by rw [hf]; omega) (by omega) (by rw [getD_S z _ (by omega)]; exact e)
  · rw [← S1, h]
    rw [hf] at h1 h4
    have hk : k < z.length := by omega
    have e : z.drop i = (z.drop i).take (k - i) ++ c :: z.drop (k + 1) := by
      have q := List.drop_eq_getElem_cons hk
      have hc : z[k] = c := by rw [← getD_S z k hk]; exact h3
      rw [hc] at q
      have e0 := (List.take_append_drop (k - i) (z.drop i)).symm
      rw [List.drop_drop, show i + (k - i) = k by omega, q] at e0
      exact e0
    unfold fnd
    rw [e, fndL_app (fun m => ?_), List.length_take, List.length_drop]
    · show (k : Int) = ((i + min (k - i) (z.length - i) : Nat) : Int)
      omega
    · obtain ⟨j, hj, e⟩ := List.mem_iff_getElem.mp m
      rw [List.length_take, List.length_drop] at hj
      rw [List.getElem_take, List.getElem_drop] at e
      exact h4 (i + j) (by omega) (by omega) (by rw [getD_S z _ (by omega)]; exact e)
/-- text.find(sign, place) -/
def gFind : D → D → D → R Ev
  | .str z, .str [c], .int i => if 0 ≤ i ∧ i ≤ z.length then .ok (.cl, .int (fnd c z i.toNat)) else .bad
  | _, _, _ => .bad
def eFind (fa fb fc : EF) : EF := fun ρ => (fa ρ).bind fun x => if isS x.2 = true then (fb ρ).bind fun y => (fc ρ).bind fun z => gFind x.2 y.2 z.2 else .bad
section
variable {X : Cx} {W : WX} {o e f : Expr} {fa fb fc : EF} {apos pos : Pos}
theorem de_find (ho : DE X W o fa) (he : DE X W e fb) (hf : DE X W f fc) (hs : starEach [e, f] X.env = (false, eval e X.env) :: starEach [f] X.env := by rfl) (hs2 : starEach [f] X.env = (false, eval f X.env) :: starEach [] X.env := by rfl)
    (hbase : attributeBase o "find" X.env (eval o X.env) = eval o X.env := by rfl)
    (hfew : ((backTo pos (starEach [e, f] X.env)).all (fun x => !x.1) && (backToKw pos (keywordEach [] X.env)).all (fun x => x.1.isSome)
      && decide (([e, f] : List Expr).length + ([] : List Keyword).length + (if ([] : List Keyword).isEmpty then 0 else 1) < 30)) = true := by rfl)
    (hline : (apos.endLine == pos.line) = true := by rfl) (hplain : (backTo pos (starEach [f] X.env)).any (·.1) = false := by rfl) :
    DE X W (.Call (.Attribute o "find" apos) [e, f] [] pos) (eFind fa fb fc) := by
  refine imp_pe (pe_bm PySem.F.plainAttrs_str PySem.F.slot_str_find PySem.F.type_str_find mt_find3 ho (pa_cons he (pa_cons hf pa_nil hs2) hs) hbase hfew hline hs hplain) fun σ H Q ⟨hid, own, ρ, hS, h⟩ => ⟨hid, own, ρ, hS, Post.part h fun x H1 v s1 r1 h1 => ?_⟩
  by_cases c : isS x.2 = true
  · rw [if_pos c] at h1
    obtain ⟨a, ea⟩ := isS_of c
    have rt := r1.rt
    rw [ea] at rt h1
    cases (show v = _ from rt)
    refine ⟨rfl, hid, own, ρ, hS.mono s1, Post.part h1 fun y H2 u s2 r2 h2 => ⟨hid, own, ρ, (hS.mono s1).mono s2, Post.part h2 fun z H3 t s3 r3 h3 => ?_⟩⟩
    obtain ⟨k2, d2⟩ := y
    obtain ⟨k3, d3⟩ := z
    unfold gFind at h3
    split at h3
    · rename_i z' c' i' e1 e2 e3
      split at h3
      · rename_i hi
        cases e1
        cases (show d2 = _ from e2)
        cases (show d3 = _ from e3)
        refine ⟨S a, S [c'], i', rfl, by rw [show u = _ from r2.rt, show t = _ from r3.rt], ?_⟩
        have : i' = ((i'.toNat : Nat) : Int) := (Int.toNat_of_nonneg hi.1).symm
        rw [this, find_S c' a i'.toNat (by omega)]
        exact h3.now rfl
      · exact h3.elim
    · exact h3.elim
  · rw [if_neg c] at h1; exact h1.elim
/-- text.index(sign), where it stands -/
def gIdx : D → D → R Ev
  | .str z, .str [c] => match fndL c 0 z with
    | some k => .ok (.cl, .int (k : Nat))
    | none => .bad
  | _, _ => .bad
theorem index_S {c k : Nat} {z : List Nat} (h : fndL c 0 z = some k) : ∃ rest, Builtin.Str.occurrences (S z) (S [c]) 0 (S z).length 1 = k :: rest := by
  have pre1' : ∀ (d : Nat) (r : List Nat), TL.pre [c] (d :: r) = (d == c) := fun d r => by
    show ([d] == [c]) = (d == c)
    rw [Bool.eq_iff_iff, beq_iff_eq, beq_iff_eq]
    exact ⟨fun h => (List.cons.inj h).1, fun h => by rw [h]⟩
  have at_c : ∀ i, StrLaws.At (S z) (S [c]) (S z).length i ↔ z[i]? = some c := fun i => by
    rw [TL.at_iff (by rw [show TL.tl (S [c]) = [c] from S_cps _]; exact List.cons_ne_nil _ _), show TL.tl (S [c]) = [c] from S_cps _, show TL.tl (S z) = z from S_cps _]
    by_cases hi : i < z.length
    · rw [List.drop_eq_getElem_cons hi, pre1', List.getElem?_eq_getElem hi, beq_iff_eq]
      exact ⟨fun e => by rw [e], fun e => Option.some.inj e⟩
    · rw [List.drop_eq_nil_of_le (by omega), List.getElem?_eq_none (by omega)]
      exact ⟨fun e => (nomatch e), fun e => (nomatch e)⟩
  have hm : c ∈ z := by
    by_cases m : c ∈ z
    · exact m
    · rw [fndL_none m] at h; cases h
  obtain ⟨a, b, e, n⟩ := split_mem hm
  subst e
  rw [fndL_app n] at h
  have hk : k = a.length := by have := Option.some.inj h; omega
  subst hk
  rcases StrLaws.occ_head (S (a ++ c :: b)) (S [c]) 1 (Nat.le_refl 1) with ⟨_, hn⟩ | ⟨i, r, h1, h2, h3⟩
  · exact absurd ((at_c a.length).mpr (by simp)) (hn _)
  · have e1 : i = a.length := by
      have q := (at_c i).mp h2
      rcases Nat.lt_trichotomy i a.length with w | w | w
      · rw [List.getElem?_append_left w] at q
        exact absurd (List.mem_of_getElem? q) n
      · exact w
      · exact absurd ((at_c a.length).mpr (by simp)) (h3 _ w)
    rw [e1] at h1
    exact ⟨r, h1⟩
theorem mg_idx {K : PySem.W.Frag} : MthG K (fun x xs H Q => ∃ a b i rest, x = .str a ∧ xs = [.str b] ∧ Builtin.Str.occurrences a b 0 a.length 1 = i :: rest ∧ Q (.int (i : Nat)) H) gIdx := by
  intro hid own H Wx a y dy Q hb ry q
  unfold gIdx at q
  split at q
  · rename_i z c e1
    cases e1
    split at q
    · rename_i k hk
      obtain ⟨rest, hr⟩ := index_S hk
      exact ⟨S a, S [c], k, rest, rfl, by rw [show y = _ from ry], hr, q.now rfl⟩
    · exact q.elim
  · exact q.elim
theorem de_index (ho : DE X W o fa) (he : DE X W e fb) (hs : starEach [e] X.env = [(false, eval e X.env)] := by rfl) (hbase : attributeBase o "index" X.env (eval o X.env) = eval o X.env := by rfl) (hline : (apos.endLine == pos.line) = true := by rfl) :
    DE X W (.Call (.Attribute o "index" apos) [e] [] pos) (mth1 gIdx fa fb) := de_m1 PySem.F.slot_str_index PySem.F.type_str_index mt_sindex mg_idx ho he hs hbase hline
end

/-! ### a dict that the top has written, texts by texts -/
def keyS (e : DictEntry) : Option Str := match e.key with
  | .str x _ => some x
  | _ => none
structure KT (K : PySem.W.Frag) (w : World) (d : Addr) (m : List (List Nat × List Nat)) : Prop where
  dic : ∃ es n, KDict K w d es n ∧ es.toList.map keyS = m.map fun p => some (S p.1)
  val : ∀ p ∈ m, ∃ t, PySem.W.nsIn K d (S p.1) = some (some (.str (S p.2) t))
theorem no_key {z : Str} : ∀ {l : List DictEntry} {ks : List Str}, l.map keyS = ks.map some → z ∉ ks → l.find? (·.key.isStr z) = none ∧ l.any (·.refKey) = false
  | [], _, _, _ => ⟨rfl, rfl⟩
  | e :: r, [], h, _ => by cases h
  | e :: r, k :: ks, h, n => by
    have h1 : keyS e :: r.map keyS = some k :: ks.map some := h
    injection h1 with h2 h3
    obtain ⟨q1, q2⟩ := no_key h3 fun m => n (List.mem_cons_of_mem _ m)
    unfold keyS at h2
    split at h2
    · rename_i x t q
      have h4 := Option.some.inj h2
      subst h4
      have e1 : e.key.isStr z = false := by
        rw [q]
        exact beq_false_of_ne fun y => n (by rw [← y]; exact List.mem_cons_self)
      have e2 : e.refKey = false := by
        unfold DictEntry.refKey
        rw [q]
      exact ⟨by rw [List.find?_cons_of_neg (by rw [e1]; exact Bool.false_ne_true)]; exact q1, by rw [List.any_cons, e2, q2]; rfl⟩
    · cases h2
theorem mem_lookup {z : List Nat} : ∀ (m : List (List Nat × List Nat)) (p : List Nat × List Nat), p ∈ m → p.1 = z → ∃ v, m.lookup z = some v
  | q :: r, p, hp, e => by
    by_cases c : z = q.1
    · have : (z == q.1) = true := by rw [c]; exact beq_self_eq_true _
      exact ⟨q.2, by rw [List.lookup_cons, this]⟩
    · have c' : (z == q.1) = false := beq_false_of_ne c
      obtain ⟨v, hv⟩ := mem_lookup r p ((List.mem_cons.mp hp).resolve_left fun w => c (by rw [← e, w])) e
      exact ⟨v, by rw [List.lookup_cons, c']; exact hv⟩
theorem KT.none {K : PySem.W.Frag} {w : World} {d : Addr} {m : List (List Nat × List Nat)} (h : KT K w d m) {z : List Nat} (n : m.lookup z = none) : PySem.W.nsIn K d (S z) = some none := by
  have hz : S z ∉ m.map fun p => S p.1 := fun y => by
    obtain ⟨p, hp, e⟩ := List.mem_map.mp y
    have e := S_inj e
    obtain ⟨v, hv⟩ := mem_lookup m p hp e
    rw [n] at hv; cases hv
  obtain ⟨es, k, D, key⟩ := h.dic
  have key : es.toList.map keyS = (m.map fun p => S p.1).map some := by
    rw [key, List.map_map]
    rfl
  obtain ⟨f1, f2⟩ := no_key key hz
  unfold PySem.W.nsIn
  rw [D.at_]
  show (match es.toList.find? (·.key.isStr (S z)) with | some e => some (some e.val) | Option.none => if es.toList.any (·.refKey) then Option.none else some Option.none) = _
  rw [f1, f2]
  rfl
theorem lookup_mem {m : List (List Nat × List Nat)} {z y : List Nat} (h : m.lookup z = some y) : (z, y) ∈ m := by
  induction m with
  | nil => cases h
  | cons q r ih =>
    by_cases c : z = q.1
    · rw [List.lookup_cons] at h
      have : (z == q.1) = true := by rw [c]; exact beq_self_eq_true _
      rw [this] at h
      have := Option.some.inj h
      rw [c, ← this]; exact List.mem_cons_self
    · have c' : (z == q.1) = false := beq_false_of_ne c
      rw [List.lookup_cons, c'] at h
      exact List.mem_cons_of_mem _ (ih h)
def gKin (m : List (List Nat × List Nat)) : D → R Ev
  | .str z => .ok (.cl, .bl (m.lookup z).isSome)
  | _ => .bad
def gKix (m : List (List Nat × List Nat)) : D → R Ev
  | .str z => match m.lookup z with
    | some y => .ok (.cl, .str y)
    | none => .bad
  | _ => .bad
section
variable {X : Cx} {W : WX} {a : Expr} {fa : EF} {x : Str} {d : Addr} {m : List (List Nat × List Nat)} {p pos : Pos}
theorem de_kin (h : KT X.K X.w d m) (hg : Gl X x) (hm : X.mg x = some (.ref d)) (ha : DE X W a fa) (hd : (x == ("__debug__" : Str)) = false := by decide) : DE X W (.Compare a [.In] [.Name x p] pos) (op1 (gKin m) fa) := by
  obtain ⟨es, k, D, _⟩ := h.dic
  refine imp_pe (pe_cmpR (op_in_kd D) ha (pe_glob (v := .ref d) hg hm rfl hd) (by rfl)) fun σ H Q ⟨hid, own, ρ, hS, q⟩ => ⟨hid, own, ρ, hS, Post.part q fun e H1 v s1 r1 h1 => ?_⟩
  obtain ⟨k1, d1⟩ := e
  cases d1 with
  | str z =>
    have h1 : Post X.K hid own H1 (Wc X.mg W σ) (.ok (.cl, .bl (m.lookup z).isSome)) Q := h1
    cases e : m.lookup z with
    | none =>
      rw [e] at h1
      exact ⟨S z, none, r1.rt, rfl, h.none e, h1.now rfl⟩
    | some y =>
      rw [e] at h1
      obtain ⟨t, ht⟩ := h.val _ (lookup_mem e)
      exact ⟨S z, some _, r1.rt, rfl, ht, h1.now rfl⟩
  | _ => exact h1.elim
theorem de_kix (h : KT X.K X.w d m) (hg : Gl X x) (hm : X.mg x = some (.ref d)) (ha : DE X W a fa) (hs : PlainIx a := by intro _ _; rfl) (hd : (x == ("__debug__" : Str)) = false := by decide) : DE X W (.Subscript (.Name x p) a pos) (op1 (gKix m) fa) := by
  obtain ⟨es, k, D, _⟩ := h.dic
  refine imp_pe (pe_ix ix_kdict (pe_glob (v := .ref d) hg hm rfl hd) ha hs) fun σ H Q ⟨hid, own, ρ, hS, q⟩ => ⟨hid, own, ρ, hS, Post.part q fun e H1 v s1 r1 h1 => ?_⟩
  obtain ⟨k1, d1⟩ := e
  cases d1 with
  | str z =>
    have h1 : Post X.K hid own H1 (Wc X.mg W σ) (match m.lookup z with | some y => .ok (.cl, .str y) | none => .bad) Q := h1
    cases e : m.lookup z with
    | none => rw [e] at h1; exact h1.elim
    | some y =>
      rw [e] at h1
      obtain ⟨t, ht⟩ := h.val _ (lookup_mem e)
      exact ⟨d, S z, .str (S y), rfl, r1.rt, ⟨es, k, _, D.at_, D.lit, ht, ⟨t, rfl⟩⟩, h1.now rfl⟩
  | _ => exact h1.elim

/-! ### raise of a class of the program -/
/-- a class that may be raised by name -/
structure Cl (K : PySem.W.Frag) (mg : Str → Option Value) (x : Str) where
  C : Addr
  g : mg x = some (.ref C)
  k : PySem.W.keepIn K (.ref C) = true
  s : PySem.W.subIn K (.ref C) (.type "BaseException") = some true
  t : PySem.W.typeIn K (.ref C) = some (.type "type")
def sRaise (c : Str) : SF := fun ρ => .exc c ρ
theorem ds_raise {msg : Str} {B newId initId : String} {bmB : List Value} {j : Nat} {p2 pos' : Pos} (hc : X.calm = true) (tk : Takes X W) (F : ExcBaseFacts B newId initId bmB) (c : Cl X.K X.mg x) (q : PySem.W.excIn X.K c.C bmB newId = true) (hg : Gl X x) (hdb : (x == ("__debug__" : Str)) = false := by decide) :
    DS X W (.Raise (some (.Call (.Name x p) [.Constant (.str msg) j p2] [] pos)) none pos') (sRaise x) :=
  imp_ps (ps_raise hc tk (pmk_own F q c.g c.k (raises_own c.s c.t) hg hdb)) fun D σ H ⟨hid, own, ρ, hS, h⟩ => h own σ H Ext.refl hS c.C c.g
end
end PL
set_option Elab.async false
set_option linter.all false
set_option maxRecDepth 100000
set_option maxHeartbeats 4000000
/-! PL11: a written dict at once indexed, try with one own class. -/
namespace PL
open PySem PySem.Spec L2

/-! ### {..}[e] -/
theorem tPairs_c {σ : L2.St} {H : Hp} : ∀ (m : List (List Nat × List Nat)) (Q : List (V × V) → Hp → Prop), Q (m.map fun p => (V.str (S p.1), V.str (S p.2))) H → tPairs (m.map fun p => (tC (.str (S p.1)), tC (.str (S p.2)))) σ H Q
  | [], Q, h => h
  | p :: r, Q, h => tPairs_c r (fun ps H3 => Q ((V.str (S p.1), V.str (S p.2)) :: ps) H3) h
def kvsOf (m : List (List Nat × List Nat)) : List (Key × V) := m.map fun p => (.inr (S p.1), .str (S p.2))
theorem merge_new : ∀ (m : List (List Nat × List Nat)) (kvs : List (Key × V)), (m.map (·.1)).Nodup → (∀ p ∈ m, ∀ kv ∈ kvs, kv.1 ≠ .inr (S p.1)) → mergeK kvs (kvsOf m) = kvs ++ kvsOf m
  | [], kvs, _, _ => (List.append_nil kvs).symm
  | p :: r, kvs, hn, h => by
    have hn' := List.nodup_cons.mp hn
    have e : putK kvs (.inr (S p.1)) (.str (S p.2)) = kvs ++ [(.inr (S p.1), .str (S p.2))] := by
      unfold putK
      rw [if_neg]
      rw [Bool.not_eq_true, List.any_eq_false]
      intro kv hkv
      have := h p List.mem_cons_self kv hkv
      simpa using this
    show mergeK (putK kvs (.inr (S p.1)) (.str (S p.2))) (kvsOf r) = kvs ++ ((.inr (S p.1), .str (S p.2)) :: kvsOf r)
    rw [e, merge_new r _ hn'.2 fun q hq kv hkv => ?_, List.append_assoc]
    · rfl
    · rcases List.mem_append.mp hkv with z | z
      · exact h q (List.mem_cons_of_mem _ hq) kv z
      · rw [List.mem_singleton.mp z]
        intro w
        have w : S p.1 = S q.1 := Sum.inr.inj w
        exact hn'.1 (List.mem_map.mpr ⟨q, hq, (S_inj w).symm⟩)
theorem val_look (z : List Nat) : ∀ (m : List (List Nat × List Nat)), valV (kvsOf m) (.inr (S z)) = (m.lookup z).map fun y => V.str (S y)
  | [] => rfl
  | p :: r => by
    by_cases c : z = p.1
    · have e : (z == p.1) = true := by rw [c]; exact beq_self_eq_true _
      rw [List.lookup_cons, e]
      exact valV_pos (p := (Sum.inr (S p.1), V.str (S p.2))) (by rw [c])
    · have e : (z == p.1) = false := beq_false_of_ne c
      rw [List.lookup_cons, e]
      refine (valV_neg (p := (Sum.inr (S p.1), V.str (S p.2))) fun w => c (S_inj (Sum.inr.inj w)).symm).trans ?_
      exact val_look z r
section
variable {X : Cx} {W : WX} {a : Expr} {fa : EF} {x : Str} {pos p2 : Pos} {keys : List (Option Expr)} {values : List Expr}
theorem de_dix (m : List (List Nat × List Nat)) (hu : X.A.units + 1 < cLine) (hp : PPs X p2 keys values (m.map fun p => (tC (.str (S p.1)), tC (.str (S p.2))))) (hall : keys.all (·.isSome) = true) (hl : keys.length = values.length) (h0 : keys ≠ []) (h15 : keys.length ≤ 15)
    (hn : (m.map (·.1)).Nodup) (hm15 : m.length ≤ 15) (ha : DE X W a fa) (hs : NoSl a := by intro _ _; rfl) : DE X W (.Subscript (.Dict keys values p2) a pos) (op1 (gKix m) fa) := by
  refine imp_pe (pe_dget hu (pe_disp hp hall hl h0 h15) ha hs) fun σ H Q ⟨hid, own, ρ, hS, q⟩ => ?_
  intro p np
  refine tPairs_c m _ ⟨upd_same, kvsOf m, ?_, ?_, ?_⟩
  · unfold kvsOf
    rw [List.map_map]
    rfl
  · unfold kvsOf
    rw [List.length_map]; exact hm15
  · have mg : mergeK [] (kvsOf m) = kvsOf m := merge_new m [] hn fun _ _ _ h => absurd h List.not_mem_nil
    rw [mg]
    have sm : Same H (upd (upd H p (.dK [])) p (.dK (kvsOf m))) := fun b o e => by
      have hb : b ≠ p := ne_of_none e np
      rw [upd_ne hb, upd_ne hb]; exact e
    refine ⟨hid, own, ρ, hS.mono sm, Post.part (Post.mono sm q) fun e H1 v s1 r1 h1 => ?_⟩
    obtain ⟨k1, d1⟩ := e
    cases d1 with
    | str z =>
      have h1 : Post X.K hid own H1 (Wc X.mg W σ) (match m.lookup z with | some y => .ok (.cl, .str y) | none => .bad) Q := h1
      cases e : m.lookup z with
      | none => rw [e] at h1; exact h1.elim
      | some y =>
        rw [e] at h1
        refine ⟨p, .str (S y), rfl, .inl ⟨kvsOf m, .inr (S z), .inl (s1 _ _ upd_same), r1.rt, ?_⟩, h1.now rfl⟩
        rw [val_look, e]
        rfl
    | _ => exact h1.elim
end

/-! ### isinstance of a caught exception -/
/-- what must be seen of a class C for an instance of it to be asked by isinstance -/
structure ExcI (K : PySem.W.Frag) (C : Addr) : Prop where
  cl : (PySem.W.clsIn K C).isSome = true
  ga : PySem.W.findIn K (.ref C) "__getattribute__" = some (some (.builtin "BaseException.__getattribute__"))
  gt : ∃ gt, PySem.W.findIn K (.ref C) "__getattr__" = some gt
  sub : PySem.W.subIn K (.ref C) (.type "BaseException") = some true
  ca : PySem.W.findIn K (.ref C) "__class__" = some (some (.builtin "object.__class__"))
  sp : PySem.W.specialIn K (.builtin "object.__class__") "__get__" = some (some (.builtin "getset_descriptor.__get__"))
  tk : PySem.W.takesIn K (.builtin "object.__class__") = some true
  mr : PySem.W.mroIn K C (.type "object") = some true
section
variable {X : Cx} {a : Addr} {oe : Obj} {pn : List (Addr × Obj)} {C CB : Addr} {b : Bool}
theorem cr_isiE (T : ExcI X.K C) (hp : (a, oe) ∈ X.pn) (hc : oe.cls = .ref C) (hod : oe.dict = none) (hdt : ∃ vs, oe.data = .fields vs) (hk : PySem.W.kitOne X.K (.ref C) (.ref CB) = some b) :
    CallR X (.builtin "isinstance") (fun xs H Q => xs = [.ref a, .ref CB] ∧ Q (.bl b) H) := by
  intro pins s σ H xs us Q I r ⟨e, q⟩
  subst e
  obtain ⟨u1, u2, rfl, r1, r2⟩ := vals2 r
  cases r1
  cases r2
  obtain ⟨gt, hgt⟩ := T.gt
  have pin := (I.pin _ (List.mem_append_left _ hp)).1
  obtain ⟨vs, hv⟩ := hdt
  have inst : PySem.W.InstAt s.heap a oe C none := by
    refine ⟨pin, hc, ?_, ?_⟩
    · unfold PySem.W.notCls
      rw [hv]
    · rw [hod]
      trivial
  exact PySem.W.kia_one (PySem.W.kitx_exc T.cl T.ga hgt T.sub T.ca T.sp T.tk T.mr) I.kIn inst hk (fun z => nomatch z) fun tk => ⟨.bl b, H, I.tok tk, rfl, q⟩
end

/-! ### try: .. except C as n: (a suite that hands out a text) -/
def sTryC (i : Nat) (x : Str) (fb : SF) (z : List Nat) : SF := fun ρ => match fb ρ with
  | .exc c ρ' => if c = x ∧ i < ρ'.length then .rt (.cl, .str z) else .bad
  | r => r
section
variable {X : Cx} {W : WX} {x n : Str} {body suite : List Stmt} {b₀ : Stmt} {np pos pos' : Pos} {fb : SF} {z : List Nat}
theorem ds_tryC (i : Nat) (hs : X.stack = X.env :: X.outer) (hf : X.env.frame = some X.env.locals) (hN : X.N.Nodup) (hi : X.N[i]? = some n) (hln : X.env.kindOf n = some .local) (c : Cl X.K X.mg x) (hg : Gl X x) (hdb : (x == ("__debug__" : Str)) = false)
    (hex : PySem.W.exmOne X.K (.ref c.C) (.ref c.C) = some true) (tk : Takes X W)
    (hb : ∀ (W' : WX) (pn : List (Addr × Obj)) (xe : Value → Shared → Prop), Takes (X.tr pn xe) W' → PassesOwn (model X.prog X.w) X.A X.env xe → DSs (X.tr pn xe) W' body fb)
    (hsu : ∀ (a : Addr) (oe : Obj) (pn : List (Addr × Obj)), oe.cls = .ref c.C → oe.dict = none → (∃ vs, oe.data = .fields vs) → PSs (X.suite a ((a, oe) :: pn)) (b₀ :: suite) (fun D σ H => σ[i]? = some (some (.ref a)) ∧ ∀ H', Same H H' → D.rt (.str (S z)) H')) :
    DS X W (.Try body [.ExceptHandler (some (.Name x np)) (some n) (b₀ :: suite) pos'] [] [] pos) (sTryC i x fb z) := by
  refine imp_ps (ps_try_as (tb := fun W' => tS X.K X.mg W' fb) (ts := fun a cls d D σ H => cls = .ref c.C ∧ d = none ∧ σ[i]? = some (some (.ref a)) ∧ ∀ H', Same H H' → D.rt (.str (S z)) H') hs hf hN hi hln ⟨hg, hdb, .inl c.g⟩ tk hb
    (fun a oe cls d pn hz hd => ⟨fun pins s σ H D I ⟨e1, e2, q⟩ => by
      subst e1 e2
      exact (hsu a oe pn hz.1 hz.2 hd).run pins s σ H D I q⟩)) fun D σ H ⟨hid, own, ρ, hS, h⟩ => ⟨hid, own, ρ, hS, ?_⟩
  unfold sTryC at h
  cases e : fb ρ with
  | nx ρ' => rw [e] at h; exact h
  | bk ρ' => rw [e] at h; exact h
  | ct ρ' => rw [e] at h; exact h
  | rt e' => rw [e] at h; exact h
  | bad => rw [e] at h; exact h.elim
  | exc c' ρ' =>
    rw [e] at h
    have h : PostS X.K X.mg W hid own H D (if c' = x ∧ i < ρ'.length then .rt (.cl, .str z) else .bad) := h
    split at h
    · rename_i hc
      intro own' σ' H' x' S' C hC
      rw [hc.1, c.g] at hC
      have eC : c.C = C := Value.ref.inj (Option.some.inj hC)
      subst eC
      refine ⟨true, hex, fun _ a na => ⟨rfl, rfl, ?_, fun H2 s2 => ?_⟩, fun z => nomatch z⟩
      · rw [List.getElem?_set_self (by rw [← S'.len]; exact hc.2)]
      · exact h own' H2 (.str (S z)) (x'.trans (Ext.same s2)) rfl
    · exact h.elim
end

/-! ### a list display whose later items want a token -/
theorem pa_consC {X : Cx} {a : Expr} {op : Operator} {r : R2} {ta : TE} {tr : TA} {m : Str} {j : Nat} {c0 pos : Pos} {es : List Expr} (ho : OpR X (binaryOp op) r) (ha : PE X a ta) (hr : PAT X es tr)
    (hs : starEach (.BinOp a op (.Constant (.str m) j c0) pos :: es) X.env = (false, eval (.BinOp a op (.Constant (.str m) j c0) pos) X.env) :: starEach es X.env) : PA X (.BinOp a op (.Constant (.str m) j c0) pos :: es) (tCons (tOp r ta (tC (.str m))) tr) := by
  refine ⟨fun ps pins s σ H Q I h => ?_⟩
  rw [hs]
  show wpAny _ _ (spliced ((false, eval (.BinOp a op (.Constant (.str m) j c0) pos) X.env) :: backTo ps (starEach es X.env))) _ _ s
  refine Calls.spliced_cons (PySem.wpAny_BinOp (thn (ha.run pins s σ H _ I h) fun v s1 ⟨x, H1, I1, r1, q1⟩ => Calls.Constant_str ?_))
  have h1 : 1 ≤ ({ s1 with toks := s1.toks + 1 } : Shared).toks := by show 1 ≤ s1.toks + 1; omega
  refine wpAny_mono (PySem.wpAny_toks_of h1 (ho pins _ σ H1 x (.str m) v (.str m s1.toks) _ (I1.tok _) r1 ⟨_, rfl⟩ q1)) (fun w s2 z => ?_) fun _ _ z => z.2
  obtain ⟨hk, y, H2, I2, r2, q2⟩ := z
  exact thn (hr ps pins s2 σ H2 _ hk I2 q2) fun us s3 ⟨xs, H3, I3, r3, q3⟩ => ⟨y :: xs, H3, I3, .cons r2 r3, q3⟩
theorem cons_den {X : Cx} {W : WX} {fb : EF} {fs : AF} {te : TE} (hb : ∀ σ H Q, tE X.K X.mg W fb σ H Q → te σ H Q) : ∀ σ H Q, tA X.K X.mg W (aCons fb fs) σ H Q → tCons te (tA X.K X.mg W fs) σ H Q := fun σ H Q ⟨hid, own, ρ, hS, h⟩ => by
  refine hb σ H _ ⟨hid, own, ρ, hS, ?_⟩
  unfold aCons at h
  cases e1 : fb ρ with
  | exc c => rw [e1] at h; exact h
  | bad => rw [e1] at h; exact h
  | ok x =>
    rw [e1] at h
    intro H1 v s1 r1
    refine ⟨hid, own, ρ, hS.mono s1, ?_⟩
    have h : PostA X.K hid own H (Wc X.mg W σ) ((fs ρ).bind fun es => .ok (x :: es)) Q := h
    cases e2 : fs ρ with
    | exc c => rw [e2] at h; exact fun H2 s2 => h H2 (s1.trans s2)
    | bad => rw [e2] at h; exact h
    | ok ys =>
      rw [e2] at h
      intro H2 vs s2 d2 r2
      exact h H2 (v :: vs) (s1.trans s2) d2 ⟨v, vs, rfl, r1.fwd s2, r2.base s1⟩
theorem Post.imp {K : PySem.W.Frag} {hid : Addr → Prop} {own : Own} {H : Hp} {Wx : Str → Hp → Prop} {r : R Ev} {Q Q' : VK} (k : ∀ v H', Q v H' → Q' v H') (h : Post K hid own H Wx r Q) : Post K hid own H Wx r Q' := by
  cases r with
  | ok e => exact fun H' v s q => k v H' (h H' v s q)
  | exc c => exact h
  | bad => exact h
theorem da_consC {X : Cx} {W : WX} {a : Expr} {fa : EF} {m : Str} (z : List Nat) {j : Nat} {c0 pos : Pos} {es : List Expr} {fs : AF} (ha : DE X W a fa) (hr : DAT X W es fs) (hm : m = S z := by decide +kernel)
    (hs : starEach (.BinOp a .Add (.Constant (.str m) j c0) pos :: es) X.env = (false, eval (.BinOp a .Add (.Constant (.str m) j c0) pos) X.env) :: starEach es X.env := by rfl) : DA X W (.BinOp a .Add (.Constant (.str m) j c0) pos :: es) (aCons (op2 gAdd fa (eC (.str z))) fs) := by
  subst hm
  refine imp_pa (pa_consC (op_add.or (op_add_str.or op_cat)) ha hr hs) (cons_den fun σ H Q q => ?_)
  obtain ⟨hid, own, ρ, hS, h⟩ := two (W := W) (fb := eC (.str z)) (OpG.or (fun x _ => isI x) opg_I0 (OpG.or (fun x _ => isS x) opg_addS opg_addL)) σ H Q q
  exact ⟨hid, own, ρ, hS, Post.imp (fun v H1 ⟨_, _, _, _, h⟩ => Post.now (K := X.K) h rfl) h⟩
theorem dat_nil {X : Cx} {W : WX} : DAT X W [] aNil := imp_pat pat_nil fun σ H Q ⟨hid, own, ρ, hS, h⟩ => h H [] (Same.refl _) hS.dom rfl
theorem dat_cons {X : Cx} {W : WX} {e : Expr} {es : List Expr} {fa : EF} {fs : AF} (ha : DET X W e fa) (hr : DAT X W es fs) (hs : starEach (e :: es) X.env = (false, eval e X.env) :: starEach es X.env := by rfl) : DAT X W (e :: es) (aCons fa fs) := imp_pat (pat_cons ha hr hs) (cons_den fun _ _ _ q => q)
end PL
namespace PL
open PySem PySem.Spec L2
theorem exm_self {K : PySem.W.Frag} {C : Addr} (h1 : PySem.W.subIn K (.ref C) (.type "BaseException") = some true) (h2 : PySem.W.isClsIn K C = true) (h3 : PySem.W.typeIn K (.ref C) = some (.type "type")) (h4 : PySem.W.subIn K (.ref C) (.ref C) = some true) :
    PySem.W.exmOne K (.ref C) (.ref C) = some true := by
  have c1 : (PySem.W.clsIn K C).isSome = true := h2
  unfold PySem.W.exmOne PySem.W.kitCls
  simp [h1, h3, h4, c1]
theorem kit_sub {K : PySem.W.Frag} {C C2 : Addr} {b : Bool} (h0 : PySem.W.subIn K (.ref C) (.ref C) = some true) (h1 : PySem.W.subIn K (.ref C) (.ref C2) = some b) (h2 : PySem.W.isClsIn K C2 = true) (h3 : PySem.W.typeIn K (.ref C2) = some (.type "type")) :
    PySem.W.kitOne K (.ref C) (.ref C2) = some b := by
  have c1 : (PySem.W.clsIn K C2).isSome = true := h2
  unfold PySem.W.kitOne PySem.W.kitCls
  by_cases e : C = C2
  · subst e
    rw [h0] at h1
    simp [Option.some.inj h1]
  · have : (Value.ref C == Value.ref C2) = false := beq_false_of_ne fun z => e (Value.ref.inj z)
    rw [this]
    simp [c1, h3, h1]
theorem un1_of {A : Around} {k : Nat} (hr : Room k A) : A.units + 1 < cLine := Nat.lt_of_le_of_lt (by omega) hr.un
theorem pps_consC {X : Cx} {pos c0 c1 : Pos} {j0 j1 : Nat} {x y : Str} {ks : List (Option Expr)} {vs : List Expr} {trs : List (TE × TE)} (k v : List Nat) (hr : PPs X pos ks vs trs) (hk : x = S k := by decide +kernel) (hv : y = S v := by decide +kernel) :
    PPs X pos (some (.Constant (.str x) j0 c0) :: ks) (.Constant (.str y) j1 c1 :: vs) ((tC (.str (S k)), tC (.str (S v))) :: trs) := by
  subst hk hv
  exact pps_cons pe_str pe_str hr
/-- [s0, s1][int(isinstance(e, B1) and not isinstance(e, B2))] of a caught exception e of a class below B1, not below B2 -/
theorem suite_isi {Y : Cx} {n B1 B2 s0 s1 : Str} {i : Nat} {a : Addr} {oe : Obj} {C C1 C2 : Addr} {z : List Nat} {j0 j1 : Nat} {p1 p2 p3 p4 p5 p6 p7 p8 p9 p10 p11 p12 p13 p14 p15 pe1 pe2 : Pos}
    (T : ExcI Y.K C) (hp : (a, oe) ∈ Y.pn) (hc : oe.cls = .ref C) (hod : oe.dict = none) (hdt : ∃ vs, oe.data = .fields vs) (k1 : PySem.W.kitOne Y.K (.ref C) (.ref C1) = some true) (k2 : PySem.W.kitOne Y.K (.ref C) (.ref C2) = some false)
    (hv1 : PE Y (.Name n pe1) (tVar i)) (hv2 : PE Y (.Name n pe2) (tVar i)) (g1 : Gl Y B1) (m1 : Y.mg B1 = some (.ref C1)) (g2 : Gl Y B2) (m2 : Y.mg B2 = some (.ref C2)) (d1 : (B1 == ("__debug__" : Str)) = false) (d2 : (B2 == ("__debug__" : Str)) = false)
    (gi : Gl Y "isinstance") (mi : Y.mg "isinstance" = none) (gn : Gl Y "int") (mn : Y.mg "int" = none) (hz : s1 = S z)
    (q1 : starEach [.Name n pe1, .Name B1 p1] Y.env = (false, eval (.Name n pe1) Y.env) :: starEach [.Name B1 p1] Y.env)
    (q2 : starEach [.Name n pe2, .Name B2 p2] Y.env = (false, eval (.Name n pe2) Y.env) :: starEach [.Name B2 p2] Y.env)
    (q5 : starEach [.Constant (.str s0) j0 p3, .Constant (.str s1) j1 p4] Y.env = (false, eval (.Constant (.str s0) j0 p3) Y.env) :: starEach [.Constant (.str s1) j1 p4] Y.env)
    (q3 : starEach [.BoolOp .And [.Call (.Name "isinstance" p5) [.Name n pe1, .Name B1 p1] [] p6, .UnaryOp .Not (.Call (.Name "isinstance" p7) [.Name n pe2, .Name B2 p2] [] p8) p9] p10] Y.env =
      (false, eval (.BoolOp .And [.Call (.Name "isinstance" p5) [.Name n pe1, .Name B1 p1] [] p6, .UnaryOp .Not (.Call (.Name "isinstance" p7) [.Name n pe2, .Name B2 p2] [] p8) p9] p10) Y.env) :: starEach [] Y.env) :
    PSs Y [.Return (some (.Subscript (.List [.Constant (.str s0) j0 p3, .Constant (.str s1) j1 p4] p11) (.Call (.Name "int" p12) [.BoolOp .And [.Call (.Name "isinstance" p5) [.Name n pe1, .Name B1 p1] [] p6, .UnaryOp .Not (.Call (.Name "isinstance" p7) [.Name n pe2, .Name B2 p2] [] p8) p9] p10] [] p13) p14)) p15]
      (fun D σ H => σ[i]? = some (some (.ref a)) ∧ ∀ H', Same H H' → D.rt (.str (S z)) H') := by
  have e1 := pe_callB (cr_isiE (b := true) T hp hc hod hdt k1) gi mi bt_isi (pa_cons hv1 (pa_cons (pe_glob (v := .ref C1) (pos := p1) g1 m1 rfl d1) pa_nil) q1) (by decide) (by decide) q1 rfl (p := p5) (pos := p6)
  have e2 := pe_callB (cr_isiE (b := false) T hp hc hod hdt k2) gi mi bt_isi (pa_cons hv2 (pa_cons (pe_glob (v := .ref C2) (pos := p2) g2 m2 rfl d2) pa_nil) q2) (by decide) (by decide) q2 rfl (p := p7) (pos := p8)
  have e3 := pe_andT (pos := p10) e1 (pe_one (op := .And) (pos := p10) (pe_notT (pos := p9) e2))
  have e4 := pe_callTy call_int1 gn mn bt_int (pa_cons e3 pa_nil q3) (by decide) (by decide) q3 rfl (p := p12) (pos := p13)
  refine imp_pss (pss_one (ps_ret (pe_ix ix_seq (pe_lst (pa_cons pe_str (pa_cons pe_str pa_nil) q5)) e4 (by intro _ _; rfl)))) fun D σ H ⟨hi, h⟩ => ?_
  refine ⟨by show 2 ≤ sizeLine; rw [sizeLine_eq]; decide, fun p np => ?_⟩
  have hL : SqL Y.K (upd H p (.lst [.str s0, .str s1])) p [.str s0, .str s1] := SqL.of upd_same
  have fin : D.rt (.str s1) (upd H p (.lst [.str s0, .str s1])) := by rw [hz]; exact h _ (sameUpd np)
  have e5 : atI [V.str s0, V.str s1] (1 : Int) = some (.str s1) := atI_nat' (i := 1) rfl
  exact ⟨_, hi, rfl, true, rfl, iteT ⟨_, hi, rfl, false, rfl, .inr ⟨true, rfl, .inl ⟨p, _, 1, _, rfl, rfl, hL, e5, fin⟩⟩⟩⟩
end PL
set_option Elab.async false
set_option linter.all false
set_option maxRecDepth 100000
set_option maxHeartbeats 4000000
/-! PE2: more rules with side conditions (the same as in the texts of k62). -/
namespace PL
open PySem PySem.Spec L2
theorem joinL_nil : ∀ xs : List (List Nat), TL.joinL [] xs = xs.flatten
  | [] => rfl
  | [p] => by simp [TL.joinL]
  | p :: q :: r => by
    show p ++ ([] ++ TL.joinL [] (q :: r)) = _
    rw [joinL_nil (q :: r), List.nil_append]
    rfl
theorem num_len {n : Nat} (h : n < 2 ^ 64) : (TL.numL n).length ≤ 20 := TL.numL_len (by decide) (Nat.lt_of_lt_of_le h (by decide))
def prc (c : Nat) : Bool := decide (32 ≤ c) && decide (c ≤ 126)
def prn (x : List Nat) : Bool := x.all prc
theorem lt1 (a b : Nat) : decide ([a] < [b]) = decide (a < b) := by
  rw [decide_eq_decide, List.cons_lt_cons_iff]
  exact ⟨fun h => h.elim (fun z => z) fun z => absurd z.2 (List.lt_irrefl []), .inl⟩
theorem not_dec_lt (a b : Nat) : (!decide (a < b)) = decide (b ≤ a) := by
  rw [← decide_not]
  exact decide_eq_decide.mpr Nat.not_lt
theorem gLe_1 (a b : Nat) : gLe (.str [a]) (.str [b]) = .ok (.cl, .bl (decide (a ≤ b))) := by
  show R.ok (Kd.cl, D.bl (!decide ([b] < [a]))) = _
  rw [lt1, not_dec_lt]
theorem chn_ok {ρ : Ro} {fa fb fc : EF} {g g' : D → D → R Ev} {k1 k2 k3 k4 : Kd} {x y z : D} {a b : Bool} (ha : fa ρ = .ok (k1, x)) (hb : fb ρ = .ok (k2, y)) (hg : g x y = .ok (k3, .bl a)) (hc : fc ρ = .ok (k4, z)) (hg' : g' y z = .ok (.cl, .bl b)) : chn g g' fa fb fc ρ = .ok (.cl, .bl (a && b)) := by
  unfold chn
  simp only [ha, hb, hg, R.bind_ok]
  cases a with
  | true => simp only [hc, R.bind_ok, hg', Bool.true_and]
  | false => rfl
theorem all_id (x : List Nat) (p : Nat → Bool) : (x.map p).all id = x.all p := by
  rw [List.all_map]
  rfl
theorem iRng_ok {ρ : Ro} {fa : EF} {k : Kd} {n : Nat} (ha : fa ρ = .ok (k, .int n)) (h : n < 2 ^ 60) : iRng fa ρ = .ok (false, (List.range' 0 n).map fun k : Nat => D.int k) := by
  unfold iRng
  rw [ha, R.bind_ok]
  have q : -(2 ^ 62) ≤ (n : Int) ∧ (n : Int) < 2 ^ 62 := by omega
  show (if -(2 ^ 62) ≤ (n : Int) ∧ (n : Int) < 2 ^ 62 then _ else _) = _
  rw [if_pos q, Int.toNat_natCast, List.range_eq_range']
  exact congrArg (fun z => R.ok (false, z)) (List.map_congr_left fun k _ => by rw [Int.zero_add])

theorem bad_count (p : List Nat) : decide ((0 : Int) < ((p.filter fun c => !prc c).length : Int)) = !prn p := by
  cases h : prn p with
  | true =>
    have : p.filter (fun c => !prc c) = [] := by
      rw [List.filter_eq_nil_iff]
      intro c hc
      have := List.all_eq_true.mp h c hc
      simp [this]
    rw [this]
    rfl
  | false =>
    have : 0 < (p.filter fun c => !prc c).length := by
      rw [List.length_pos_iff]
      intro z
      rw [List.filter_eq_nil_iff] at z
      have : prn p = true := List.all_eq_true.mpr fun c hc => by
        have := z c hc
        simpa using this
      rw [this] at h
      cases h
    rw [decide_eq_true (by omega)]
    rfl
theorem gLt_1 (a b : Nat) : gLt (.str [a]) (.str [b]) = .ok (.cl, .bl (decide (a < b))) := by
  show R.ok (Kd.cl, D.bl (decide ([a] < [b]))) = _
  rw [lt1]
theorem gGt_1 (a b : Nat) : gGt (.str [a]) (.str [b]) = .ok (.cl, .bl (decide (b < a))) := by
  show R.ok (Kd.cl, D.bl (decide ([b] < [a]))) = _
  rw [lt1]
theorem prc_not (c : Nat) : (decide (c < 32) || decide (126 < c)) = !prc c := by
  unfold prc
  rw [Bool.not_and, ← decide_not, ← decide_not]
  congr 1 <;> exact decide_eq_decide.mpr Nat.not_le.symm
theorem gIsi_ok {n : String} {d : D} (ho : isO d = false) : gIsi n d = .ok (.cl, .bl (inst n d)) := by
  unfold gIsi
  rw [ho]
theorem isi_ok {ρ : Ro} {fa : EF} {k : Kd} {d : D} {n : String} {b : Bool} (ha : fa ρ = .ok (k, d)) (h : inst n d = b) (ho : isO d = false := by rfl) : tVal (eIsi n fa) ρ = .ok b := by
  subst h
  exact tVal_b (op1_ok ha (gIsi_ok ho))
theorem isiE {ρ : Ro} {fa : EF} {k : Kd} {d : D} {n : String} {b : Bool} (ha : fa ρ = .ok (k, d)) (h : inst n d = b) (ho : isO d = false := by rfl) : eIsi n fa ρ = .ok (.cl, .bl b) := by
  subst h
  exact op1_ok ha (gIsi_ok ho)
theorem isnT {ρ : Ro} {fa : EF} {k : Kd} {d : D} {b : Bool} (ha : fa ρ = .ok (k, d)) (h : isN d = b) : tE' (eIsN false fa) ρ = .ok b := by
  subst h
  unfold tE'
  rw [show eIsN false fa ρ = .ok (.cl, .bl (isN d)) from op1_ok ha rfl]
  rfl
theorem eAnd_t {ρ : Ro} {fa fb : EF} {k : Kd} {q : R Ev} (ha : fa ρ = .ok (k, .bl true)) (hb : fb ρ = q) : eAnd fa fb ρ = q := by
  unfold eAnd
  rw [ha, R.bind_ok]
  show (if true = true then fb ρ else R.ok (k, D.bl true)) = q
  rw [if_pos rfl, hb]
theorem eNot_b {ρ : Ro} {fa : EF} {k : Kd} {b : Bool} (ha : fa ρ = .ok (k, .bl b)) : eNot fa ρ = .ok (.cl, .bl (!b)) := by
  unfold eNot
  rw [ha, R.bind_ok]
  rfl
def Bel (l : Nat) (ns : List Nat) : Prop := ∀ n ∈ ns, n < l
def known : List Nat := [32, 33, 34, 35, 36, 38, 39, 40, 41, 42, 43, 44, 45, 46, 47, 48, 49, 50, 51, 52, 53, 54, 55, 56, 57, 58, 59, 60, 61, 62, 63, 64, 65, 66, 67, 88, 89, 90, 91, 92, 93, 94, 95, 97, 98, 99, 100, 101, 102, 103, 104, 105, 106, 107, 108, 109, 110, 111, 112, 113, 114, 115, 116, 117, 118, 119, 120, 121, 122, 123, 124, 125, 126, 10]
theorem flat_one (f : Nat → Nat) : ∀ ns : List Nat, (ns.map fun n => [f n]).flatten = ns.map f
  | [] => rfl
  | n :: r => by
    rw [List.map_cons, List.flatten_cons, flat_one f r]
    rfl
theorem one_fit (f : Nat → Nat) (ns : List Nat) : joinSize [] (ns.map fun n => [f n]) = ns.length := by
  unfold joinSize
  rw [List.map_map]
  have : ∀ l : List Nat, (l.map (List.length ∘ fun n => [f n])).sum = l.length := by
    intro l
    induction l with
    | nil => rfl
    | cons a r ih => rw [List.map_cons, List.sum_cons, ih, List.length_cons]; simp only [Function.comp, List.length_cons, List.length_nil]; omega
  rw [this]
  simp
theorem repl1 (a b : Nat) : ∀ x : List Nat, StrLaws.replL [a] [b] x = x.map fun c => if c = a then b else c
  | [] => StrLaws.replL_nil
  | c :: r => by
    by_cases h : c = a
    · subst h
      rw [StrLaws.replL_hit (List.cons_ne_nil _ _) (by rfl), List.map_cons, if_pos rfl]
      show [b] ++ StrLaws.replL [c] [b] r = _
      rw [repl1 c b r]
      rfl
    · rw [StrLaws.replL_miss (y := [a]) (c := c) (r := r) (fun z => h (List.cons.inj (show [c] = [a] from z)).1), List.map_cons, if_neg h, repl1 a b r]
theorem prc_rng {c : Nat} (h : prc c = true) : 32 ≤ c ∧ c ≤ 126 := by
  unfold prc at h
  rw [Bool.and_eq_true, decide_eq_true_eq, decide_eq_true_eq] at h
  exact h
section
variable {ρ : Ro} {fa fl fh : EF} {k k2 k3 : Kd}
theorem slTo {x : List Nat} {n : Nat} (ha : fa ρ = .ok (k, .str x)) (hh : fh ρ = .ok (k2, .int n)) (hz : x.length ≤ 16777216) : eSl fa (oSome (eC (.int 0))) (oSome fh) ρ = .ok (.cl, .str (x.take n)) := by
  unfold eSl
  rw [ha, R.bind_ok]
  show (R.ok (some (0 : Int))).bind _ = _
  rw [R.bind_ok]
  unfold oSome
  rw [hh, R.bind_ok]
  show gSl (.str x) (some 0) (some (n : Int)) = _
  rw [gSl_s hz, cut_to]
theorem slFrom {x : List Nat} {n : Nat} (ha : fa ρ = .ok (k, .str x)) (hl : fl ρ = .ok (k2, .int n)) (hz : x.length ≤ 16777216) : eSl fa (oSome fl) oNo ρ = .ok (.cl, .str (x.drop n)) := by
  unfold eSl
  rw [ha, R.bind_ok]
  unfold oSome
  rw [hl, R.bind_ok]
  show gSl (.str x) (some (n : Int)) none = _
  rw [gSl_s hz, cut_from]
theorem slToL {x : List D} {n : Nat} (ha : fa ρ = .ok (k, .lst x)) (hh : fh ρ = .ok (k2, .int n)) : eSl fa (oSome (eC (.int 0))) (oSome fh) ρ = .ok (.fr, .lst (x.take n)) := by
  unfold eSl
  rw [ha, R.bind_ok]
  show (R.ok (some (0 : Int))).bind _ = _
  rw [R.bind_ok]
  unfold oSome
  rw [hh, R.bind_ok]
  show R.ok (Kd.fr, D.lst (cutL x (some 0) (some (n : Int)))) = _
  rw [cut_to]
theorem slFromL {x : List D} {n : Nat} (ha : fa ρ = .ok (k, .lst x)) (hl : fl ρ = .ok (k2, .int n)) : eSl fa (oSome fl) oNo ρ = .ok (.fr, .lst (x.drop n)) := by
  unfold eSl
  rw [ha, R.bind_ok]
  unfold oSome
  rw [hl, R.bind_ok]
  show R.ok (Kd.fr, D.lst (cutL x (some (n : Int)) none)) = _
  rw [cut_from]
theorem ixS {x : List Nat} {n c : Nat} (ha : fa ρ = .ok (k, .str x)) (hl : fl ρ = .ok (k2, .int n)) (hz : x.length ≤ 16777216) (hc : x[n]? = some c) : op2 gIx fa fl ρ = .ok (.cl, .str [c]) := op2_ok ha hl (gIx_s hz hc)
theorem addS {x y : List Nat} (ha : fa ρ = .ok (k, .str x)) (hl : fl ρ = .ok (k2, .str y)) (hz : x.length + y.length ≤ 16777216) : op2 gAdd fa fl ρ = .ok (.cl, .str (x ++ y)) := op2_ok ha hl (gAdd_s hz)
theorem addN {x y : Nat} (ha : fa ρ = .ok (k, .int x)) (hl : fl ρ = .ok (k2, .int y)) : op2 gAdd fa fl ρ = .ok (.cl, .int ((x + y : Nat) : Int)) := op2_ok ha hl gAdd_i
theorem lenS {x : List Nat} (ha : fa ρ = .ok (k, .str x)) (hz : x.length ≤ 16777216) : op1 gLen fa ρ = .ok (.cl, .int (x.length : Nat)) := op1_ok ha (gLen_s hz)
end
def numD (ds : List Nat) : D := .lst ((ds.map fun n : Nat => (n : Int)).map D.int)
section
variable {ds : List Nat}
theorem numD_get {ds : List Nat} {i : Nat} (h : i < ds.length) : ((ds.map fun n : Nat => (n : Int)).map D.int)[i]? = some (.int (ds[i] : Nat)) := by
  rw [List.getElem?_map, List.getElem?_map, List.getElem?_eq_getElem h]
  rfl
theorem ixN_ok {ρ : Ro} {fa fb : EF} {k k2 : Kd} {i : Nat} (ha : fa ρ = .ok (k, numD ds)) (hb : fb ρ = .ok (k2, .int i)) (h : i < ds.length) : op2 gIx fa fb ρ = .ok (.cl, .int (ds[i] : Nat)) := op2_ok ha hb (gIx_l (numD_get h))
end
def Tx (ρ : Ro) (f : EF) (n : Nat) : Prop := ∃ x : List Nat, f ρ = .ok (.cl, .str x) ∧ x.length ≤ n
def Ls (ρ : Ro) (f : EF) (c n : Nat) : Prop := ∃ k, ∃ xs : List (List Nat), f ρ = .ok (k, .lst (xs.map D.str)) ∧ xs.length ≤ c ∧ ∀ x ∈ xs, x.length ≤ n
def Nm (ρ : Ro) (f : EF) (n : Nat) : Prop := ∃ k, ∃ v : Nat, f ρ = .ok (k, .int v) ∧ v ≤ n
def TxA (ρ : Ro) (fs : AF) (c n : Nat) : Prop := ∃ es : List Ev, ∃ xs : List (List Nat), fs ρ = .ok es ∧ es.map (·.2) = xs.map D.str ∧ es.all okE = true ∧ xs.length = c ∧ ∀ x ∈ xs, x.length ≤ n
section
variable {ρ : Ro} {a b c : EF} {n m c1 c2 : Nat} {fs : AF}
theorem Tx.mono (h : Tx ρ a n) (k : n ≤ m) : Tx ρ a m := let ⟨x, e, l⟩ := h; ⟨x, e, Nat.le_trans l k⟩
theorem Tx.add (h1 : Tx ρ a n) (h2 : Tx ρ b m) (hz : n + m ≤ 16777216) : Tx ρ (op2 gAdd a b) (n + m) := by
  obtain ⟨x, e, l⟩ := h1
  obtain ⟨y, e', l'⟩ := h2
  exact ⟨_, addS e e' (by omega), by rw [List.length_append]; omega⟩
theorem Tx.con (x : List Nat) : Tx ρ (eC (.str x)) x.length := ⟨_, rfl, Nat.le_refl _⟩
theorem Nm.con (x : Nat) : Nm ρ (eC (.int (x : Int))) x := ⟨_, _, rfl, Nat.le_refl _⟩
theorem Nm.add (h1 : Nm ρ a n) (h2 : Nm ρ b m) : Nm ρ (op2 gAdd a b) (n + m) := by
  obtain ⟨q, x, e, l⟩ := h1
  obtain ⟨q', y, e', l'⟩ := h2
  exact ⟨_, _, addN e e', by omega⟩
theorem Tx.to (h1 : Tx ρ a n) (h2 : Nm ρ b m) (hz : n ≤ 16777216) : Tx ρ (eSl a (oSome (eC (.int 0))) (oSome b)) n := by
  obtain ⟨x, e, l⟩ := h1
  obtain ⟨q', y, e', l'⟩ := h2
  exact ⟨_, slTo e e' (by omega), by rw [List.length_take]; omega⟩
theorem Tx.from (h1 : Tx ρ a n) (h2 : Nm ρ b m) (hz : n ≤ 16777216) : Tx ρ (eSl a (oSome b) oNo) n := by
  obtain ⟨x, e, l⟩ := h1
  obtain ⟨q', y, e', l'⟩ := h2
  exact ⟨_, slFrom e e' (by omega), by rw [List.length_drop]; omega⟩
theorem Nm.len (h : Tx ρ a n) (hz : n ≤ 16777216) : Nm ρ (op1 gLen a) n := by
  obtain ⟨x, e, l⟩ := h
  exact ⟨_, _, lenS e (by omega), l⟩
theorem Nm.mod (h1 : Nm ρ a n) (h2 : ∃ k, ∃ v : Nat, b ρ = .ok (k, .int v) ∧ 0 < v ∧ v ≤ m + 1) : Nm ρ (op2 gMod a b) m := by
  obtain ⟨q, x, e, l⟩ := h1
  obtain ⟨q', y, e', l0, l'⟩ := h2
  refine ⟨.cl, x % y, op2_ok e e' ((gMod_i (by omega)).trans (congrArg (fun z => R.ok (Kd.cl, D.int z)) (Int.natCast_emod _ _).symm)), ?_⟩
  have := Nat.mod_lt x l0
  omega
theorem pos_add (h1 : Nm ρ a n) (hm : 0 < m) : ∃ k, ∃ v : Nat, op2 gAdd a (eC (.int (m : Int))) ρ = .ok (k, .int v) ∧ 0 < v ∧ v ≤ n + m := by
  obtain ⟨q, x, e, l⟩ := h1
  exact ⟨_, _, addN e (k2 := .cl) (y := m) rfl, by omega, by omega⟩
theorem Nm.ix {ds : List Nat} (h1 : ∃ k, a ρ = .ok (k, numD ds)) (h2 : ∃ k, b ρ = .ok (k, .int (m : Nat))) (hm : m < ds.length) : Nm ρ (op2 gIx a b) (ds[m]) := by
  obtain ⟨k, e⟩ := h1
  obtain ⟨k', e'⟩ := h2
  exact ⟨_, _, ixN_ok e e' hm, Nat.le_refl _⟩
theorem TxA.nil : TxA ρ aNil 0 n := ⟨[], [], rfl, rfl, rfl, rfl, fun _ h => absurd h List.not_mem_nil⟩
theorem TxA.cons {k : Nat} (h : Tx ρ a k) (hk : k ≤ n) (hs : TxA ρ fs c1 n) : TxA ρ (aCons a fs) (c1 + 1) n := by
  obtain ⟨x, e, l⟩ := h
  obtain ⟨es, xs, e1, e2, e3, e4, e5⟩ := hs
  refine ⟨(.cl, .str x) :: es, x :: xs, aCons_ok e e1, by rw [List.map_cons, List.map_cons, e2], ?_, by rw [List.length_cons, e4], fun y hy => (List.mem_cons.mp hy).elim (fun z => by rw [z]; omega) (e5 y)⟩
  rw [List.all_cons, e3, Bool.and_true]
  rfl
theorem Ls.disp (h : TxA ρ fs c1 n) (hz : c1 ≤ 16777216) : ∃ xs : List (List Nat), disp (fun ds => (.fr, .lst ds)) fs ρ = .ok (.fr, .lst (xs.map D.str)) ∧ xs.length ≤ c1 ∧ ∀ x ∈ xs, x.length ≤ n := by
  obtain ⟨es, xs, e1, e2, e3, e4, e5⟩ := h
  refine ⟨xs, disp_ok e1 e3 ?_ e2, by omega, e5⟩
  have := congrArg List.length e2
  rw [List.length_map, List.length_map] at this
  omega
end
theorem lcA_ex {α : Type} {h : D → R (Option D)} {k : α → D} {P : List Nat → Prop} : ∀ {xs : List α}, (∀ a ∈ xs, ∃ y, h (k a) = .ok (some (.str y)) ∧ P y) → ∃ ys : List (List Nat), lcA h (xs.map k) = .ok (ys.map D.str) ∧ ys.length = xs.length ∧ ∀ y ∈ ys, P y
  | [], _ => ⟨[], rfl, rfl, fun _ hy => absurd hy List.not_mem_nil⟩
  | a :: xs, q => by
    obtain ⟨y, h1, h2⟩ := q a List.mem_cons_self
    obtain ⟨ys, h3, h4, h5⟩ := lcA_ex fun e he => q e (List.mem_cons_of_mem _ he)
    refine ⟨y :: ys, ?_, by rw [List.length_cons, List.length_cons, h4], fun z hz => (List.mem_cons.mp hz).elim (fun e => by rw [e]; exact h2) (h5 z)⟩
    rw [List.map_cons]
    unfold lcA
    rw [h1, h3]
    rfl
theorem md_ok {ρ : Ro} {fa fb : EF} {k k2 : Kd} {x y : Nat} (h1 : fa ρ = .ok (k, .int x)) (h2 : fb ρ = .ok (k2, .int y)) (h3 : 0 < y) : op2 gMod fa fb ρ = .ok (.cl, .int ((x % y : Nat) : Int)) :=
  op2_ok h1 h2 ((gMod_i (by omega)).trans (congrArg (fun z => R.ok (Kd.cl, D.int z)) (Int.natCast_emod _ _).symm))
theorem cI (n : Nat) (ρ : Ro) : eC (.int n) ρ = .ok (.cl, .int (n : Int)) := rfl
end PL
set_option Elab.async false
set_option linter.all false
set_option maxRecDepth 100000
set_option maxHeartbeats 4000000
/-! PL12: defs that change an object that is handed in (slot 0), calls of such, fields of an object. -/
namespace PL
open PySem PySem.Spec L2

/-- what a def that changes an object tells: the object's new content and the value, or a raise -/
inductive XO where
  | ok (d e : D) | exc (c : Str) | bad
abbrev FX := D → List D → XO
/-- all but the object at a stay -/
structure Kp (a : Addr) (H H' : Hp) : Prop where
  keep : ∀ b o, H b = some o → b ≠ a → H' b = some o
  free : ∀ b, H' b = none → H b = none
section
variable {K : PySem.W.Frag} {hid : Addr → Prop} {own : Own} {a : Addr} {H H1 H2 H' : Hp} {ρ : Ro} {σ : L2.St}
theorem Kp.same (s : Same H H') : Kp a H H' := ⟨fun b o e _ => s b o e, fun _ e => s.free e⟩
theorem Kp.trans (h : Kp a H H1) (k : Kp a H1 H2) : Kp a H H2 := ⟨fun b o e n => k.keep b o (h.keep b o e n) n, fun b e => h.free b (k.free b e)⟩
theorem Kp.ext {i : Nat} (ha : own i = some a) (k : Kp a H H') : Ext own own H H' :=
  ⟨fun b o e n => k.keep b o e fun z => n i (by rw [z]; exact ha), fun j b e => .inl ⟨j, e⟩, k.free⟩
theorem Kp.seen {i : Nat} (ha : own i = some a) (k : Kp a H H') : Same (hd H (ob hid own)) (hd H' (ob hid own)) := (k.ext ha).seen
theorem MR.ownd {Hc : Hp} {o : Option HO} : ∀ {d : D}, MR K Hc o d → ∃ q, o = some q ∧ Ownd q
  | .lst _, ⟨vs, e, _⟩ => ⟨_, e, True.intro⟩
  | .dct _ _, ⟨vs, ⟨kk, _, _, e⟩, _⟩ => ⟨_, e, True.intro⟩
  | .obj _ _ _, ⟨vs, ⟨C, dx, _, _, e⟩, _⟩ => ⟨_, e, True.intro⟩
  | .non, h => h.elim
  | .bl _, h => h.elim
  | .int _, h => h.elim
  | .str _, h => h.elim
  | .tup _, h => h.elim
  | .rol _, h => h.elim
/-- the object of slot i has another content -/
theorem SR.io (h : SR K hid own H ρ σ) {i : Nat} {d : D} (ha : own i = some a) (k : Kp a H H') (m : MR K (hd H' (ob hid own)) (H' a) d) : SR K hid own H' (ρ.set i (some (true, d))) σ := by
  have seen : Same (hd H (ob hid own)) (hd H' (ob hid own)) := k.seen ha
  obtain ⟨nh, ⟨o, ho, oo⟩, d0, hd0⟩ := h.oh i a ha
  have hi : i < ρ.length := (List.getElem?_eq_some_iff.mp hd0).1
  refine ⟨by rw [List.length_set]; exact h.len, fun j d' e => ?_, fun j d' e => ?_, h.inj, fun j b e => ?_, fun b hb z => h.hin b hb (k.free b z)⟩
  · by_cases c : i = j
    · subst c; rw [List.getElem?_set_self hi] at e; cases e
    · rw [List.getElem?_set_ne c] at e
      obtain ⟨v, e1, e2⟩ := h.val j d' e
      exact ⟨v, e1, Rp.mono seen _ _ e2⟩
  · by_cases c : i = j
    · subst c
      rw [List.getElem?_set_self hi] at e; cases e
      obtain ⟨a', q1, q2, _⟩ := h.ow i d0 hd0
      rw [ha] at q1; cases q1
      exact ⟨a, ha, q2, m⟩
    · rw [List.getElem?_set_ne c] at e
      obtain ⟨b, e1, e2, e3⟩ := h.ow j d' e
      obtain ⟨_, ⟨q, e4, _⟩, _⟩ := h.oh j b e1
      have nb : b ≠ a := fun z => c (h.inj i j a ha (by rw [← z]; exact e1))
      refine ⟨b, e1, e2, ?_⟩
      rw [k.keep b q e4 nb, ← e4]
      exact e3.mono seen
  · by_cases c : i = j
    · subst c
      rw [ha] at e; cases e
      obtain ⟨q, eq, oq⟩ := m.ownd
      exact ⟨nh, ⟨q, eq, oq⟩, d, List.getElem?_set_self hi⟩
    · obtain ⟨h1, ⟨q, h2, h2'⟩, d', h3⟩ := h.oh j b e
      have nb : b ≠ a := fun z => c (h.inj i j a ha (by rw [← z]; exact e))
      exact ⟨h1, ⟨q, k.keep b q h2 nb, h2'⟩, d', by rw [List.getElem?_set_ne c]; exact h3⟩
/-- the object of slot i is no longer followed -/
theorem SR.ioX (h : SR K hid own H ρ σ) {i : Nat} (ha : own i = some a) (k : Kp a H H') : SR K hid (unown own i) H' (ρ.set i none) σ := by
  have seen : Same (hd H (ob hid own)) (hd H' (ob hid (unown own i))) := hd_mono fun b o e n =>
    ⟨k.keep b o e fun z => n (.inr ⟨i, by rw [z]; exact ha⟩), fun z => n (ob_unown z)⟩
  obtain ⟨nh, ⟨o, ho, oo⟩, d0, hd0⟩ := h.oh i a ha
  have hi : i < ρ.length := (List.getElem?_eq_some_iff.mp hd0).1
  refine ⟨by rw [List.length_set]; exact h.len, fun j d' e => ?_, fun j d' e => ?_, fun j k a e1 e2 => h.inj j k a (unown_le e1).1 (unown_le e2).1, fun j b e => ?_, fun b hb z => h.hin b hb (k.free b z)⟩
  · by_cases c : i = j
    · subst c; rw [List.getElem?_set_self hi] at e; cases e
    · rw [List.getElem?_set_ne c] at e
      obtain ⟨v, e1, e2⟩ := h.val j d' e
      exact ⟨v, e1, Rp.mono seen _ _ e2⟩
  · by_cases c : i = j
    · subst c; rw [List.getElem?_set_self hi] at e; cases e
    · rw [List.getElem?_set_ne c] at e
      obtain ⟨b, e1, e2, e3⟩ := h.ow j d' e
      obtain ⟨_, ⟨q, e4, _⟩, _⟩ := h.oh j b e1
      have nb : b ≠ a := fun z => c (h.inj i j a ha (by rw [← z]; exact e1))
      refine ⟨b, by rw [unown_ne (Ne.symm c)]; exact e1, e2, ?_⟩
      rw [k.keep b q e4 nb, ← e4]
      exact e3.mono seen
  · obtain ⟨e1, c⟩ := unown_le e
    obtain ⟨h1, ⟨q, h2, h2'⟩, d', h3⟩ := h.oh j b e1
    have nb : b ≠ a := fun z => c (h.inj i j a ha (by rw [← z]; exact e1)).symm
    exact ⟨h1, ⟨q, k.keep b q h2 nb, h2'⟩, d', by rw [List.getElem?_set_ne (Ne.symm c)]; exact h3⟩
theorem Kp.extX {i : Nat} (ha : own i = some a) (k : Kp a H H') : Ext own (unown own i) H H' :=
  ⟨(k.ext ha).keep, fun j b e => .inl ⟨j, (unown_le e).1⟩, k.free⟩
end

/-! ### the promise -/
abbrev oa (hid : Addr → Prop) (a : Addr) : Addr → Prop := fun b => hid b ∨ b = a
def PostF (K : PySem.W.Frag) (mg : Str → Option Value) (hid : Addr → Prop) (a : Addr) (H : Hp) (Q : VK) (E : XK) (r : XO) : Prop :=
  match r with
  | .ok d e => ∀ H' v, Kp a H H' → MR K (hd H' (oa hid a)) (H' a) d → Rp K (hd H' (oa hid a)) e v → Q v H'
  | .exc c => ∀ H', Kp a H H' → ∀ C, mg c = some (.ref C) → E (.ref C) none H'
  | .bad => False
def spX (K : PySem.W.Frag) (mg : Str → Option Value) (n : Nat) (F : FX) : Sp := fun vs H Q E => ∃ hid a d ds us, vs = .ref a :: us ∧ (∀ b, hid b → H b ≠ none) ∧ ¬ hid a ∧ MR K (hd H (oa hid a)) (H a) d ∧
  RpL K (hd H (oa hid a)) ds us ∧ ds.length = n ∧ PostF K mg hid a H Q E (F d ds)

/-! ### expressions that may change the object of slot i -/
inductive XR where
  | ok (ρ : Ro) (d : D) | exc (c : Str) | bad
abbrev XEF := Ro → XR
def PostE (K : PySem.W.Frag) (hid : Addr → Prop) (own : Own) (a : Addr) (H : Hp) (σ : L2.St) (Wx : Str → Hp → Prop) (r : XR) (Q : VK) : Prop :=
  match r with
  | .ok ρ d => ∀ H' v, Kp a H H' → SR K hid own H' ρ σ → Rp K (hd H' (ob hid own)) d v → Q v H'
  | .exc c => ∀ H', Kp a H H' → Wx c H'
  | .bad => False
def tX (K : PySem.W.Frag) (mg : Str → Option Value) (W : WX) (i : Nat) (f : XEF) : TE := fun σ H Q => ∃ hid own a ρ, SR K hid own H ρ σ ∧ own i = some a ∧ PostE K hid own a H σ (Wc mg W σ) (f ρ) Q
abbrev XE (X : Cx) (W : WX) (i : Nat) (e : Expr) (f : XEF) : Prop := PE X e (tX X.K X.mg W i f)
inductive XAR where
  | ok (ρ : Ro) (ds : List D) | exc (c : Str) | bad
abbrev XAF := Ro → XAR
def PostXA (K : PySem.W.Frag) (hid : Addr → Prop) (own : Own) (a : Addr) (H : Hp) (σ : L2.St) (Wx : Str → Hp → Prop) (r : XAR) (Q : List V → Hp → Prop) : Prop :=
  match r with
  | .ok ρ ds => ∀ H' vs, Kp a H H' → SR K hid own H' ρ σ → RpL K (hd H' (ob hid own)) ds vs → Q vs H'
  | .exc c => ∀ H', Kp a H H' → Wx c H'
  | .bad => False
def tXA (K : PySem.W.Frag) (mg : Str → Option Value) (W : WX) (i : Nat) (f : XAF) : TA := fun σ H Q => ∃ hid own a ρ, SR K hid own H ρ σ ∧ own i = some a ∧ PostXA K hid own a H σ (Wc mg W σ) (f ρ) Q
abbrev XA (X : Cx) (W : WX) (i : Nat) (es : List Expr) (f : XAF) : Prop := PA X es (tXA X.K X.mg W i f)

section
variable {K : PySem.W.Frag} {hid : Addr → Prop} {own : Own} {a : Addr} {H H1 H' : Hp} {ρ : Ro} {σ : L2.St} {Wx : Str → Hp → Prop}
theorem PostE.kp {r : XR} {Q : VK} (k : Kp a H H1) (h : PostE K hid own a H σ Wx r Q) : PostE K hid own a H1 σ Wx r Q := by
  cases r with
  | ok ρ d => exact fun H' v k' => h H' v (k.trans k')
  | exc c => exact fun H' k' => h H' (k.trans k')
  | bad => exact h
theorem PostXA.kp {r : XAR} {Q : List V → Hp → Prop} (k : Kp a H H1) (h : PostXA K hid own a H σ Wx r Q) : PostXA K hid own a H1 σ Wx r Q := by
  cases r with
  | ok ρ d => exact fun H' v k' => h H' v (k.trans k')
  | exc c => exact fun H' k' => h H' (k.trans k')
  | bad => exact h
end
def xLift (fe : EF) : XEF := fun ρ => match fe ρ with
  | .ok e => if okE e = true then .ok ρ e.2 else .bad
  | .exc c => .exc c
  | .bad => .bad
def xaNil : XAF := fun ρ => .ok ρ []
def xaCons (f : XEF) (g : XAF) : XAF := fun ρ => match f ρ with
  | .ok ρ1 d => (match g ρ1 with
    | .ok ρ2 ds => .ok ρ2 (d :: ds)
    | .exc c => .exc c
    | .bad => .bad)
  | .exc c => .exc c
  | .bad => .bad
def xTup (g : XAF) : XEF := fun ρ => match g ρ with
  | .ok ρ' ds => if ds.length ≤ 16777216 then .ok ρ' (.tup ds) else .bad
  | .exc c => .exc c
  | .bad => .bad
def xRes (i : Nat) (ρ : Ro) : XO → XR
  | .ok d' e => .ok (ρ.set i (some (true, d'))) e
  | .exc c => .exc c
  | .bad => .bad
def xApp (i n : Nat) (p : D → Bool) (F : FX) (fs : AF) : XEF := fun ρ => match ρ[i]? with
  | some (some (true, d)) => if p d = true then (match fs ρ with
    | .ok es => if es.length = n ∧ es.all okE = true then xRes i ρ (F d (es.map (·.2))) else .bad
    | .exc c => .exc c
    | .bad => .bad) else .bad
  | _ => .bad
def isOf (c m : Str) : D → Bool
  | .obj c' ns _ => c' == c && !ns.contains m
  | _ => false
section
variable {X : Cx} {W : WX} {i n k : Nat} {e : Expr} {es : List Expr} {fe : EF} {fs : AF} {f : XEF} {g : XAF} {F : FX} {pos : Pos}
theorem xe_lift (h : DE X W e fe) : XE X W i e (xLift fe) := by
  refine imp_pe h fun σ H Q ⟨hid, own, a, ρ, hS, ha, q⟩ => ⟨hid, own, ρ, hS, ?_⟩
  unfold xLift at q
  cases r : fe ρ with
  | bad => rw [r] at q; exact q
  | exc c => rw [r] at q; exact fun H' s => q H' (Kp.same s)
  | ok x =>
    rw [r] at q
    intro H' v s rv
    have q : PostE X.K hid own a H σ (Wc X.mg W σ) (if okE x = true then .ok ρ x.2 else .bad) Q := q
    split at q
    · rename_i ok
      exact q H' v (Kp.same s) (hS.mono s) (rv.clean ok)
    · exact q.elim
theorem xa_nil : XA X W i [] xaNil := imp_pa pa_nil fun σ H Q ⟨hid, own, a, ρ, hS, ha, h⟩ => h H [] (Kp.same (Same.refl _)) hS rfl
theorem xa_cons (he : XE X W i e f) (hr : XA X W i es g) (hs : starEach (e :: es) X.env = (false, eval e X.env) :: starEach es X.env := by rfl) : XA X W i (e :: es) (xaCons f g) := by
  refine imp_pa (pa_cons he hr hs) fun σ H Q ⟨hid, own, a, ρ, hS, ha, q⟩ => ⟨hid, own, a, ρ, hS, ha, ?_⟩
  unfold xaCons at q
  cases r : f ρ with
  | bad => rw [r] at q; exact q
  | exc c => rw [r] at q; exact q
  | ok ρ1 d =>
    rw [r] at q
    intro H1 v k1 S1 rv
    refine ⟨hid, own, a, ρ1, S1, ha, ?_⟩
    have q : PostXA X.K hid own a H σ (Wc X.mg W σ) (match g ρ1 with | .ok ρ2 ds => .ok ρ2 (d :: ds) | .exc c => .exc c | .bad => .bad) Q := q
    cases r2 : g ρ1 with
    | bad => rw [r2] at q; exact q
    | exc c => rw [r2] at q; exact fun H2 k2 => q H2 (k1.trans k2)
    | ok ρ2 ds =>
      rw [r2] at q
      exact fun H2 vs k2 S2 rs => q H2 (v :: vs) (k1.trans k2) S2 ⟨v, vs, rfl, Rp.mono (k2.seen ha) _ _ rv, rs⟩
theorem xe_tup {x1 : Nat} (h : XA X W i es g) : XE X W i (.Tuple es x1 pos) (xTup g) := by
  refine imp_pe (pe_tup h) fun σ H Q ⟨hid, own, a, ρ, hS, ha, q⟩ => ⟨hid, own, a, ρ, hS, ha, ?_⟩
  unfold xTup at q
  cases r : g ρ with
  | bad => rw [r] at q; exact q
  | exc c => rw [r] at q; exact q
  | ok ρ1 ds =>
    rw [r] at q
    intro H1 vs k1 S1 rs
    have q : PostE X.K hid own a H σ (Wc X.mg W σ) (if ds.length ≤ 16777216 then .ok ρ1 (.tup ds) else .bad) Q := q
    split at q
    · rename_i hz
      refine ⟨by rw [rs.len, sizeLine_eq]; exact hz, fun p np => ?_⟩
      have s := sameUpd (o := .tup vs) np
      refine q _ (.ref p) (k1.trans (Kp.same s)) (S1.mono s) ⟨p, vs, rfl, .inl (.inl (hd_some.mpr ⟨S1.vis np, upd_same⟩)), RpL.mono (hd_same s) _ _ rs⟩
    · exact q.elim

/-- a call's promise from the caller's state -/
theorem sp_core {K : PySem.W.Frag} {mg : Str → Option Value} {hid : Addr → Prop} {own : Own} {a : Addr} {H : Hp} {ρ : Ro} {σ : L2.St} {d : D} {ds : List D} {vs : List V} {Q : VK} (S : SR K hid own H ρ σ) (ha : own i = some a) (hd0 : ρ[i]? = some (some (true, d)))
    (r : RpL K (hd H (ob hid own)) ds vs) (hl : ds.length = n) (h : PostE K hid own a H σ (Wc mg W σ) (xRes i ρ (F d ds)) Q) : spX K mg n F (.ref a :: vs) H Q (WE W σ) := by
  obtain ⟨a', q1, q2, q3⟩ := S.ow i d hd0
  rw [ha] at q1; cases q1
  have both : ∀ {b}, oa (fun b => ob hid own b ∧ b ≠ a) a b ↔ ob hid own b := fun {b} =>
    ⟨fun z => z.elim (fun z => z.1) fun z => .inr ⟨i, by rw [z]; exact ha⟩, fun z => by
      by_cases c : b = a
      · exact .inr c
      · exact .inl ⟨z, c⟩⟩
  have to : ∀ H1 : Hp, Same (hd H1 (ob hid own)) (hd H1 (oa (fun b => ob hid own b ∧ b ≠ a) a)) := fun H1 => hd_mono fun b o e n => ⟨e, fun z => n (both.mp z)⟩
  have fro : ∀ H1 : Hp, Same (hd H1 (oa (fun b => ob hid own b ∧ b ≠ a) a)) (hd H1 (ob hid own)) := fun H1 => hd_mono fun b o e n => ⟨e, fun z => n (both.mpr z)⟩
  refine ⟨fun b => ob hid own b ∧ b ≠ a, a, d, ds, vs, rfl, fun b z => S.dom b z.1, fun z => z.2 rfl, q3.mono (to H), RpL.mono (to H) _ _ r, hl, ?_⟩
  cases e : F d ds with
  | bad => rw [e] at h; exact h
  | exc c => rw [e] at h; exact h
  | ok d' e' =>
    rw [e] at h
    exact fun H' v k m rv => h H' v k (S.io ha k (m.mono (fro H'))) (Rp.mono (fro H') _ _ rv)

/-- f(name, e, ..) -/
theorem xe_call {y x : Str} {q p : Pos} {fa : Addr} {fd : FuncData} {ps : List Str} (hv : PE X (.Name y q) (tVar i)) (G : FnOk X.prog X.w X.K X.mg X.base (L2.CX X.prog X.w) k fa fd ps (spX X.K X.mg n F)) (hr : Room k X.A) (hg : Gl X x) (hm : X.mg x = some (.ref fa))
    (hk : PySem.W.keepIn X.K (.ref fa) = true) (hb : Binds X.K fd ps []) (tk : Takes X W) (hf : DA X W es fs) (hdb : (x == ("__debug__" : Str)) = false := by decide)
    (he : starEach (.Name y q :: es) X.env = (false, eval (.Name y q) X.env) :: starEach es X.env := by rfl) (hpl : (backTo pos (starEach es X.env)).any (·.1) = false := by rfl) :
    XE X W i (.Call (.Name x p) (.Name y q :: es) [] pos) (xApp i n (fun _ => true) F fs) := by
  refine imp_pe (pe_callS G hr hg hm hk hb (fun σ => passAt tk σ) (pa_cons hv hf he) hdb he hpl) fun σ H Q ⟨hid, own, a, ρ, hS, ha, h⟩ => ?_
  unfold xApp at h
  split at h
  · rename_i d e0
    obtain ⟨a', q1, q2, q3⟩ := hS.ow i d e0
    rw [ha] at q1; cases q1
    rw [if_pos rfl] at h
    refine ⟨.ref a, q2, hid, own, ρ, hS, ?_⟩
    cases r : fs ρ with
    | bad => rw [r] at h; exact h.elim
    | exc c => rw [r] at h; exact fun H' s => h H' (Kp.same s)
    | ok es' =>
      rw [r] at h
      intro H1 vs s1 d1 r1
      have h : PostE X.K hid own a H σ (Wc X.mg W σ) (if es'.length = n ∧ es'.all okE = true then xRes i ρ (F d (es'.map (·.2))) else .bad) Q := h
      split at h
      · rename_i c
        exact sp_core (hS.mono s1) ha e0 (r1.clean c.2) (by rw [List.length_map]; exact c.1) (h.kp (Kp.same s1))
      · exact h.elim
  · exact h.elim
end

/-! ### methods -/
section
variable {X : Cx} {CX : CXT} {k : Nat} {f C : Addr} {fd : FuncData} {ps : List Str} {sp : Sp} {E : L2.St → XK} {m : Str} {pos apos : Pos} {e o : Expr} {es : List Expr} {ta : TE} {t : TA}
def tMethE (C : Addr) (m : Str) (sp : Sp) (E : L2.St → XK) (ta : TE) (t : TA) : TE := fun σ H Q => ta σ H fun x H1 => ∃ a dx fs, x = .ref a ∧ H1 a = some (.ins C dx fs) ∧ fs.lookup m = none ∧ t σ H1 fun vs H2 => sp (x :: vs) H2 Q (E σ)
theorem pe_methE {pl : Sem Bool} (he : PE X o ta) (c : Cls X.K C) (hm : Meth X.K C m f) (F : FnOk X.prog X.w X.K X.mg X.base CX k f fd ps sp) (hr : Room k X.A) (hb : Binds X.K fd ps []) (hx : ∀ σ, PassesAt CX X σ (E σ)) (ha : PA X (e :: es) t)
    (hst : starEach (e :: es) X.env = (false, eval e X.env) :: starEach es X.env := by rfl) (hpl : (backTo pos (starEach es X.env)).any (·.1) = false := by rfl)
    (ht : eval (.Call (.Attribute o m apos) (e :: es) [] pos) X.env = (do
      let obj ← eval o X.env
      standAt apos.atName
      let (fun_, lead) ← holding [obj] (getMethod obj m pl)
      callWith pos fun_ lead (backTo pos (starEach (e :: es) X.env)) (backToKw pos (keywordEach [] X.env))) := by rfl) :
    PE X (.Call (.Attribute o m apos) (e :: es) [] pos) (tMethE C m sp E ta t) := by
  refine ⟨fun pins s σ H Q I h => PySem.W.methodCall_KW (pl := pl) (thn (he.run pins s σ H _ I h) fun u s1 ⟨x, H1, I1, rx, a, dx, fs, ex, ea, l, q⟩ => ?_) ht⟩
  subst ex
  cases (show u = Value.ref a from rx)
  exact getmeth_ok I1 ea c hm l (PySem.W.callWith_K (first := [.ref a]) (h₀ := X.base) I1.ok.mod.kin hm.kp (thn (ha.run pos pins s1 σ H1 _ I1 q) fun us s2 ⟨vs, H2, I2, r, q2⟩ =>
    ⟨I2.kIn, run_fnS (us := .ref a :: us) (vs := .ref a :: vs) F hr hb (hx σ) I2 (.cons rfl r) q2⟩) hst hpl)
theorem pe_methE0 {pl : Sem Bool} (he : PE X o ta) (c : Cls X.K C) (hm : Meth X.K C m f) (F : FnOk X.prog X.w X.K X.mg X.base CX k f fd ps sp) (hr : Room k X.A) (hb : Binds X.K fd ps []) (hx : ∀ σ, PassesAt CX X σ (E σ))
    (ht : eval (.Call (.Attribute o m apos) [] [] pos) X.env = (do
      let obj ← eval o X.env
      standAt apos.atName
      let (fun_, lead) ← holding [obj] (getMethod obj m pl)
      callWith pos fun_ lead (backTo pos (starEach [] X.env)) (backToKw pos (keywordEach [] X.env))) := by rfl) :
    PE X (.Call (.Attribute o m apos) [] [] pos) (tMethE C m sp E ta tNil) := by
  refine ⟨fun pins s σ H Q I h => PySem.W.methodCall_KW (pl := pl) (thn (he.run pins s σ H _ I h) fun u s1 ⟨x, H1, I1, rx, a, dx, fs, ex, ea, l, q⟩ => ?_) ht⟩
  subst ex
  cases (show u = Value.ref a from rx)
  exact getmeth_ok I1 ea c hm l (PySem.W.callWith_K0 (first := [.ref a]) I1.kIn hm.kp (run_fnS (us := [.ref a]) (vs := [.ref a]) F hr hb (hx σ) I1 (.cons rfl .nil) q))
end
theorem look_none {ns : List Str} {vs : List V} {m : Str} (h : ns.contains m = false) : (ns.zip vs).lookup m = none := by
  induction ns generalizing vs with
  | nil => rfl
  | cons n r ih =>
    rw [List.contains_cons, Bool.or_eq_false_iff] at h
    cases vs with
    | nil => rfl
    | cons v s => rw [List.zip_cons_cons, List.lookup_cons, h.1]; exact ih h.2
section
variable {X : Cx} {W : WX} {i n k : Nat} {e : Expr} {es : List Expr} {fs : AF} {F : FX} {y c m : Str} {q pos apos : Pos} {C f : Addr} {fd : FuncData} {ps : List Str}
theorem isOf_ins {K : PySem.W.Frag} {hid : Addr → Prop} {own : Own} {H : Hp} {ρ : Ro} {σ : L2.St} {a : Addr} {d : D} (hC : PySem.W.nsIn K mainGlobals c = some (some (.ref C))) (S : SR K hid own H ρ σ) (ha : own i = some a) (e0 : ρ[i]? = some (some (true, d))) (p : isOf c m d = true) :
    σ[i]? = some (some (.ref a)) ∧ ∃ dx fs, H a = some (.ins C dx fs) ∧ fs.lookup m = none := by
  obtain ⟨a', q1, q2, q3⟩ := S.ow i d e0
  rw [ha] at q1; cases q1
  refine ⟨q2, ?_⟩
  cases d with
  | obj c' ns xs =>
    have p : (c' == c && !ns.contains m) = true := p
    rw [Bool.and_eq_true, beq_iff_eq, Bool.not_eq_true'] at p
    obtain ⟨vs, ⟨C', dx, e1, e2, e3⟩, _⟩ := q3
    rw [p.1, hC] at e1
    cases e1
    exact ⟨dx, _, e3, look_none p.2⟩
  | _ => exact nomatch p
/-- name.m(e, ..) -/
theorem xe_meth {pl : Sem Bool} (hv : PE X (.Name y q) (tVar i)) (hC : PySem.W.nsIn X.K mainGlobals c = some (some (.ref C))) (hc : Cls X.K C) (hm : Meth X.K C m f) (G : FnOk X.prog X.w X.K X.mg X.base (L2.CX X.prog X.w) k f fd ps (spX X.K X.mg n F)) (hr : Room k X.A)
    (hb : Binds X.K fd ps []) (tk : Takes X W) (hf : DA X W (e :: es) fs) (hst : starEach (e :: es) X.env = (false, eval e X.env) :: starEach es X.env := by rfl) (hpl : (backTo pos (starEach es X.env)).any (·.1) = false := by rfl)
    (ht : eval (.Call (.Attribute (.Name y q) m apos) (e :: es) [] pos) X.env = (do
      let obj ← eval (.Name y q) X.env
      standAt apos.atName
      let (fun_, lead) ← holding [obj] (getMethod obj m pl)
      callWith pos fun_ lead (backTo pos (starEach (e :: es) X.env)) (backToKw pos (keywordEach [] X.env))) := by rfl) :
    XE X W i (.Call (.Attribute (.Name y q) m apos) (e :: es) [] pos) (xApp i n (isOf c m) F fs) := by
  refine imp_pe (pe_methE (pl := pl) hv hc hm G hr hb (fun σ => passAt tk σ) hf hst hpl ht) fun σ H Q ⟨hid, own, a, ρ, hS, ha, h⟩ => ?_
  unfold xApp at h
  split at h
  · rename_i d e0
    have h : PostE X.K hid own a H σ (Wc X.mg W σ) (if isOf c m d = true then (match fs ρ with
      | .ok es => if es.length = n ∧ es.all okE = true then xRes i ρ (F d (es.map (·.2))) else .bad
      | .exc c => .exc c
      | .bad => .bad) else .bad) Q := h
    split at h
    · rename_i p
      obtain ⟨q2, dx, gs, q3, q4⟩ := isOf_ins hC hS ha e0 p
      refine ⟨.ref a, q2, a, dx, gs, rfl, q3, q4, hid, own, ρ, hS, ?_⟩
      cases r : fs ρ with
      | bad => rw [r] at h; exact h.elim
      | exc c => rw [r] at h; exact fun H' s => h H' (Kp.same s)
      | ok es' =>
        rw [r] at h
        intro H1 vs s1 d1 r1
        have h : PostE X.K hid own a H σ (Wc X.mg W σ) (if es'.length = n ∧ es'.all okE = true then xRes i ρ (F d (es'.map (·.2))) else .bad) Q := h
        split at h
        · rename_i c
          exact sp_core (hS.mono s1) ha e0 (r1.clean c.2) (by rw [List.length_map]; exact c.1) (h.kp (Kp.same s1))
        · exact h.elim
    · exact h.elim
  · exact h.elim
/-- name.m() -/
theorem xe_meth0 {pl : Sem Bool} (hv : PE X (.Name y q) (tVar i)) (hC : PySem.W.nsIn X.K mainGlobals c = some (some (.ref C))) (hc : Cls X.K C) (hm : Meth X.K C m f) (G : FnOk X.prog X.w X.K X.mg X.base (L2.CX X.prog X.w) k f fd ps (spX X.K X.mg 0 F)) (hr : Room k X.A)
    (hb : Binds X.K fd ps []) (tk : Takes X W)
    (ht : eval (.Call (.Attribute (.Name y q) m apos) [] [] pos) X.env = (do
      let obj ← eval (.Name y q) X.env
      standAt apos.atName
      let (fun_, lead) ← holding [obj] (getMethod obj m pl)
      callWith pos fun_ lead (backTo pos (starEach [] X.env)) (backToKw pos (keywordEach [] X.env))) := by rfl) :
    XE X W i (.Call (.Attribute (.Name y q) m apos) [] [] pos) (xApp i 0 (isOf c m) F aNil) := by
  refine imp_pe (pe_methE0 (pl := pl) hv hc hm G hr hb (fun σ => passAt tk σ) ht) fun σ H Q ⟨hid, own, a, ρ, hS, ha, h⟩ => ?_
  unfold xApp at h
  split at h
  · rename_i d e0
    have h : PostE X.K hid own a H σ (Wc X.mg W σ) (if isOf c m d = true then xRes i ρ (F d []) else .bad) Q := h
    split at h
    · rename_i p
      obtain ⟨q2, dx, gs, q3, q4⟩ := isOf_ins hC hS ha e0 p
      exact ⟨.ref a, q2, a, dx, gs, rfl, q3, q4, sp_core hS ha e0 (show RpL X.K (hd H (ob hid own)) [] [] from rfl) rfl h⟩
    · exact h.elim
  · exact h.elim
end
end PL
set_option Elab.async false
set_option linter.all false
set_option maxRecDepth 100000
set_option maxHeartbeats 4000000
/-! PL13: fields, pop(0), an object's making, statements of a def that changes the object of slot 0. -/
namespace PL
open PySem PySem.Spec L2

/-! ### fields -/
def fldG (f : Str) : List Str → List D → Option D
  | n :: ns, x :: xs => if f = n then some x else fldG f ns xs
  | _, _ => none
def fldS (f : Str) (d : D) : List Str → List D → List D
  | n :: ns, x :: xs => if n = f then d :: xs else x :: fldS f d ns xs
  | _, _ => [d]
def fldN (f : Str) : List Str → List Str
  | n :: ns => if n = f then n :: ns else n :: fldN f ns
  | [] => [f]
section
variable {K : PySem.W.Frag} {H : Hp} {f : Str} {d : D}
theorem fldG_rp : ∀ {ns : List Str} {xs : List D} {vs : List V}, RpL K H xs vs → ns.length = vs.length → fldG f ns xs = some d → ∃ v, (ns.zip vs).lookup f = some v ∧ Rp K H d v
  | [], _, _, _, _, e => by cases e
  | _ :: _, [], _, _, _, e => by cases e
  | n :: ns, x :: xs, _, ⟨v, r, e1, h2, h3⟩, hl, e => by
    subst e1
    have e : (if f = n then some x else fldG f ns xs) = some d := e
    rw [List.zip_cons_cons, List.lookup_cons]
    by_cases c : f = n
    · rw [if_pos c] at e; cases e
      rw [show (f == n) = true from beq_iff_eq.mpr c]
      exact ⟨v, rfl, h2⟩
    · rw [if_neg c] at e
      rw [show (f == n) = false from beq_false_of_ne c]
      exact fldG_rp h3 (by simpa using hl) e
theorem fldS_rp {v : V} (q : Rp K H d v) : ∀ {ns : List Str} {xs : List D} {vs : List V}, RpL K H xs vs → ns.length = vs.length →
    ∃ us, putF f v (ns.zip vs) = (fldN f ns).zip us ∧ (fldN f ns).length = us.length ∧ RpL K H (fldS f d ns xs) us
  | [], xs, vs, h, hl => by
    have : vs = [] := List.length_eq_zero_iff.mp hl.symm
    subst this
    refine ⟨[v], rfl, rfl, ?_⟩
    cases xs with
    | nil => exact ⟨v, [], rfl, q, rfl⟩
    | cons x xs => obtain ⟨w, r, e, _⟩ := h; cases e
  | n :: ns, [], vs, h, hl => by
    rw [show vs = [] from h] at hl; cases hl
  | n :: ns, x :: xs, _, ⟨w, r, e1, h2, h3⟩, hl => by
    subst e1
    rw [List.zip_cons_cons]
    show ∃ us, (if n = f then (n, v) :: ns.zip r else (n, w) :: putF f v (ns.zip r)) = (if n = f then n :: ns else n :: fldN f ns).zip us ∧ (if n = f then n :: ns else n :: fldN f ns).length = us.length ∧ RpL K H (if n = f then d :: xs else x :: fldS f d ns xs) us
    by_cases c : n = f
    · rw [if_pos c, if_pos c, if_pos c]
      exact ⟨v :: r, rfl, by simpa using hl, v, r, rfl, q, h3⟩
    · rw [if_neg c, if_neg c, if_neg c]
      obtain ⟨us, q1, q2, q3⟩ := fldS_rp q (ns := ns) (xs := xs) h3 (by simpa using hl)
      exact ⟨w :: us, by rw [q1]; rfl, by simpa using q2, w, us, rfl, h2, q3⟩
end
def gFld (c f : Str) : D → R Ev
  | .obj c' ns xs => if c' = c then (match fldG f ns xs with | some d => .ok (.cl, d) | none => .bad) else .bad
  | _ => .bad
section
variable {X : Cx} {W : WX} {e : Expr} {fe : EF} {c f : Str} {C : Addr} {pos : Pos}
theorem de_fld (hC : PySem.W.nsIn X.K mainGlobals c = some (some (.ref C))) (hc : Cls X.K C) (hn : NoAttr X.K C f) (he : DE X W e fe) (hb : attributeBase e f X.env (eval e X.env) = eval e X.env := by rfl) : DE X W (.Attribute e f pos) (op1 (gFld c f) fe) := by
  refine imp_pe (pe_fld he hb) fun σ H Q ⟨hid, own, ρ, hS, h⟩ => ⟨hid, own, ρ, hS, Post.part h fun x H1 v s1 r1 h1 => ?_⟩
  obtain ⟨k, d⟩ := x
  have rt := r1.rt
  cases d with
  | obj c' ns xs =>
    have h2 : Post X.K hid own H1 (Wc X.mg W σ) (if c' = c then (match fldG f ns xs with | some d => .ok (.cl, d) | none => .bad) else .bad) Q := h1
    by_cases ec : c' = c
    · rw [if_pos ec] at h2
      obtain ⟨a, vs, e1, ⟨C', dx, e2, e3, e4⟩, r⟩ := rt
      rw [ec, hC] at e2
      cases e2
      cases g : fldG f ns xs with
      | none => rw [g] at h2; exact h2.elim
      | some d' =>
        rw [g] at h2
        obtain ⟨w, l, rw'⟩ := fldG_rp r e3 g
        exact ⟨a, C, dx, _, w, e1, (hd_some.mp e4).2, hc, hn, l, h2 H1 w (Same.refl _) rw'⟩
    · rw [if_neg ec] at h2; exact h2.elim
  | _ => exact h1.elim
end

/-! ### pop(0) -/
def xPop (i : Nat) : XEF := fun ρ => match ρ[i]? with
  | some (some (true, .lst (d :: ds))) => .ok (ρ.set i (some (true, .lst ds))) d
  | _ => .bad
section
variable {X : Cx} {W : WX} {i j : Nat} {y : Str} {q cp apos pos : Pos}
theorem xe_pop (hv : PE X (.Name y q) (tVar i)) (hs : starEach [.Constant (.int 0) j cp] X.env = (false, eval (.Constant (.int 0) j cp) X.env) :: starEach [] X.env := by rfl)
    (hbase : attributeBase (.Name y q) "pop" X.env (eval (.Name y q) X.env) = eval (.Name y q) X.env := by rfl) (hline : (apos.endLine == pos.line) = true := by rfl)
    (hfew : ((backTo pos (starEach [.Constant (.int 0) j cp] X.env)).all (fun x => !x.1) && (backToKw pos (keywordEach [] X.env)).all (fun x => x.1.isSome) && decide (([Expr.Constant (.int 0) j cp] : List Expr).length + ([] : List Keyword).length + (if ([] : List Keyword).isEmpty then 0 else 1) < 30)) = true := by rfl) :
    XE X W i (.Call (.Attribute (.Name y q) "pop" apos) [.Constant (.int 0) j cp] [] pos) (xPop i) := by
  refine imp_pe (pe_bm F.plainAttrs_list F.slot_list_pop F.type_list_pop mt_popAt hv (pa_cons pe_int pa_nil hs) hbase hfew hline hs rfl) fun σ H Q ⟨hid, own, a, ρ, hS, ha, h⟩ => ?_
  unfold xPop at h
  split at h
  · rename_i d ds e0
    obtain ⟨a', q1, q2, us, eh, v, r, e1, h2, h3⟩ := hS.ow i _ e0
    rw [ha] at q1; cases q1
    subst e1
    refine ⟨.ref a, q2, .inl ⟨rfl, _, SqL.of eh⟩, ?_⟩
    have kp : Kp a H (upd H a (.lst ((v :: r).eraseIdx 0))) := ⟨fun b o e n => by rw [upd_ne n]; exact e, fun b e => by
      by_cases c : b = a
      · rw [c, upd_same] at e; cases e
      · rw [upd_ne c] at e; exact e⟩
    refine ⟨a, v :: r, 0, 0, v, rfl, rfl, eh, by decide, by decide, ?_, rfl, ?_⟩
    · show seqIndex? 0 (r.length + 1) = some 0
      unfold seqIndex?
      simp
    · exact h _ v kp (hS.io ha kp ⟨r, upd_same, RpL.mono (kp.seen ha) _ _ h3⟩) (Rp.mono (kp.seen ha) _ _ h2)
  · exact h.elim
end

/-! ### a new object of an own class -/
def eMake (c : Str) (n : Nat) (F : FX) (fs : AF) : EF := fun ρ => (fs ρ).bind fun es => if es.length = n ∧ es.all okE = true then (match F (.obj c [] []) (es.map (·.2)) with
  | .ok d .non => .ok (.fr, d)
  | _ => .bad) else .bad
section
variable {X : Cx} {W : WX} {n k : Nat} {e : Expr} {es : List Expr} {fs : AF} {F : FX} {x c : Str} {p pos : Pos} {C f : Addr} {fd : FuncData} {ps : List Str}
theorem de_make (hC : PySem.W.nsIn X.K mainGlobals c = some (some (.ref C))) (M : Mk X.K C f) (G : FnOk X.prog X.w X.K X.mg X.base (L2.CX X.prog X.w) k f fd ps (spX X.K X.mg n F)) (hr : Room (k + 1) X.A) (hg : Gl X x) (hm : X.mg x = some (.ref C)) (hb : Binds X.K fd ps [])
    (tk : Takes X W) (ha : DA X W (e :: es) fs) (hdb : (x == ("__debug__" : Str)) = false := by decide) (he : starEach (e :: es) X.env = (false, eval e X.env) :: starEach es X.env := by rfl) (hpl : (backTo pos (starEach es X.env)).any (·.1) = false := by rfl) :
    DE X W (.Call (.Name x p) (e :: es) [] pos) (eMake c n F fs) := by
  refine imp_pe (pe_make M G hr hg hm hb .nil (passes_call (E := fun _ _ _ => False) tk fun _ _ _ _ h => h.elim) ha hdb he hpl) fun σ H Q ⟨hid, own, ρ, hS, h⟩ => ⟨hid, own, ρ, hS, ?_⟩
  unfold eMake at h
  cases r : fs ρ with
  | bad => rw [r] at h; exact h
  | exc c => rw [r] at h; exact h
  | ok es' =>
    rw [r] at h
    intro H1 vs s1 d1 r1 y dx ny nx nd
    have S1 := hS.mono s1
    have h : Post X.K hid own H (Wc X.mg W σ) (if es'.length = n ∧ es'.all okE = true then (match F (.obj c [] []) (es'.map (·.2)) with | .ok d .non => .ok (.fr, d) | _ => .bad) else .bad) Q := h
    rw [List.append_nil]
    have s2 : Same H1 (upd (upd H1 dx (.own y)) y (.ins C dx [])) := fun b o e => by
      rw [upd_ne (ne_of_none e ny), upd_ne (ne_of_none e nx)]; exact e
    have seen : Same (hd H1 (ob hid own)) (hd (upd (upd H1 dx (.own y)) y (.ins C dx [])) (oa (ob hid own) y)) := hd_mono fun b o e n => ⟨s2 b o e, fun z => z.elim n fun z => by rw [z, ny] at e; cases e⟩
    split at h
    · rename_i c1
      refine ⟨ob hid own, y, .obj c [] [], es'.map (·.2), vs, rfl, fun b z w => d1 b z (s2.free w), S1.vis ny, ⟨[], ⟨C, dx, hC, rfl, upd_same⟩, rfl⟩, RpL.mono seen _ _ (r1.clean c1.2), by rw [List.length_map]; exact c1.1, ?_⟩
      split at h
      · rename_i d q
        rw [q]
        refine fun H' v kp m rv => ⟨rv, h H' (.ref y) (fun b o e => ?_) ⟨y, rfl, s1.free ny, S1.vis ny, m⟩⟩
        have e1 := s1 b o e
        exact kp.keep b o (s2 b o e1) (ne_of_none e1 ny)
      · exact h.elim
    · exact h.elim
end

/-! ### statements of a def that may change the object of its slot 0 -/
inductive SX where
  | nx (ρ : Ro) | rt (ρ : Ro) (d : D) | exc (c : Str) | bad
abbrev XF := Ro → SX
def PostX (K : PySem.W.Frag) (mg : Str → Option Value) (W : WX) (hid : Addr → Prop) (own : Own) (a : Addr) (H : Hp) (D : Ends) (r : SX) : Prop :=
  match r with
  | .nx ρ => ∀ own' σ' H', Ext own own' H H' → own' 0 = some a → SR K hid own' H' ρ σ' → D.nx σ' H'
  | .rt ρ d => ∀ own' σ' H' v, Ext own own' H H' → own' 0 = some a → SR K hid own' H' ρ σ' → Rp K (hd H' (ob hid own')) d v → D.rt v H'
  | .exc c => ∀ own' σ' H', Ext own own' H H' → Wc mg W σ' c H'
  | .bad => False
def tXS (K : PySem.W.Frag) (mg : Str → Option Value) (W : WX) (f : XF) : TS := fun D σ H => ∃ hid own a ρ, SR K hid own H ρ σ ∧ own 0 = some a ∧ PostX K mg W hid own a H D (f ρ)
abbrev XS (X : Cx) (W : WX) (st : Stmt) (f : XF) : Prop := PS X st (tXS X.K X.mg W f)
abbrev XSs (X : Cx) (W : WX) (st : List Stmt) (f : XF) : Prop := PSs X st (tXS X.K X.mg W f)
theorem PostX.ext {K : PySem.W.Frag} {mg : Str → Option Value} {W : WX} {hid : Addr → Prop} {own own' : Own} {a : Addr} {H H' : Hp} {D : Ends} {r : SX} (x : Ext own own' H H') (h : PostX K mg W hid own a H D r) : PostX K mg W hid own' a H' D r := by
  cases r with
  | nx ρ => exact fun o σ' h' x' => h o σ' h' (x.trans x')
  | rt ρ d => exact fun o σ' h' v x' => h o σ' h' v (x.trans x')
  | exc c => exact fun o σ' h' x' => h o σ' h' (x.trans x')
  | bad => exact h
def xSkip : XF := .nx
def xSeq (f g : XF) : XF := fun ρ => match f ρ with
  | .nx ρ' => g ρ'
  | r => r
def xIf (t : TF) (f g : XF) : XF := fun ρ => match t ρ with
  | .ok true => f ρ
  | .ok false => g ρ
  | .exc c => .exc c
  | .bad => .bad
def xOf (r : XR) (k : Ro → D → SX) : SX := match r with
  | .ok ρ d => k ρ d
  | .exc c => .exc c
  | .bad => .bad
def xSet (j : Nat) (f : XEF) : XF := fun ρ => xOf (f ρ) fun ρ' d => .nx (ρ'.set j (some (false, d)))
def xDo (f : XEF) : XF := fun ρ => xOf (f ρ) fun ρ' _ => .nx ρ'
def xRet (f : XEF) : XF := fun ρ => xOf (f ρ) .rt
def whileX (t : TF) (fb : XF) : Nat → XF
  | 0, _ => .bad
  | n + 1, ρ => match t ρ with
    | .ok true => (match fb ρ with
      | .nx ρ2 => whileX t fb n ρ2
      | r => r)
    | .ok false => .nx ρ
    | .exc c => .exc c
    | .bad => .bad
section
variable {X : Cx} {W : WX} {st : Stmt} {sts : List Stmt} {f g : XF} {e : Expr} {fe : XEF} {pos : Pos}
theorem xss_nil : XSs X W [] xSkip := imp_pss pss_nil fun D σ H ⟨hid, own, a, ρ, hS, ha, h⟩ => h own σ H Ext.refl ha hS
theorem xss_cons (h1 : XS X W st f) (h2 : XSs X W sts g) : XSs X W (st :: sts) (xSeq f g) := imp_pss (pss_cons h1 h2) fun D σ H ⟨hid, own, a, ρ, hS, ha, h⟩ => ⟨hid, own, a, ρ, hS, ha, by
  unfold xSeq at h
  cases e : f ρ with
  | nx ρ' => rw [e] at h; exact fun own' σ' H' x a' S' => ⟨hid, own', a, ρ', S', a', PostX.ext x h⟩
  | rt ρ' d => rw [e] at h; exact h
  | exc c => rw [e] at h; exact h
  | bad => rw [e] at h; exact h⟩
theorem xs_doc {x j pos'} : XS X W (.Expr (.Constant (.str x) j pos) pos') xSkip := imp_ps ps_doc fun D σ H ⟨hid, own, a, ρ, hS, ha, h⟩ => h own σ H Ext.refl ha hS
theorem xs_if {c : Expr} {a b : List Stmt} {t : TF} (hc : DT X W c t) (ha : XSs X W a f) (hb : XSs X W b g) : XS X W (.If c a b pos) (xIf t f g) :=
  imp_ps (ps_if hc ha hb) fun D σ H ⟨hid, own, a, ρ, hS, ha, h⟩ => ⟨hid, own, ρ, hS, by
    unfold xIf at h
    cases e : t ρ with
    | ok b =>
      rw [e] at h
      intro H1 s1
      cases b with
      | true => rw [if_pos rfl]; exact ⟨hid, own, a, ρ, hS.mono s1, ha, PostX.ext (Ext.same s1) h⟩
      | false => rw [if_neg Bool.false_ne_true]; exact ⟨hid, own, a, ρ, hS.mono s1, ha, PostX.ext (Ext.same s1) h⟩
    | exc c => rw [e] at h; exact fun H1 s => h own σ H1 (Ext.same s)
    | bad => rw [e] at h; exact h.elim⟩
theorem PostX.part {K : PySem.W.Frag} {mg : Str → Option Value} {hid : Addr → Prop} {own : Own} {a : Addr} {H : Hp} {σ : L2.St} {DD : Ends} {r : XR} {k : Ro → D → SX} {T : VK} (ha : own 0 = some a) (h : PostX K mg W hid own a H DD (xOf r k))
    (q : ∀ ρ' d H1 v, Kp a H H1 → SR K hid own H1 ρ' σ → Rp K (hd H1 (ob hid own)) d v → PostX K mg W hid own a H1 DD (k ρ' d) → T v H1) : PostE K hid own a H σ (Wc mg W σ) r T := by
  cases r with
  | bad => exact h
  | exc c => exact fun H' kp => h own σ H' (kp.ext ha)
  | ok ρ' d => exact fun H' v kp S' rv => q ρ' d H' v kp S' rv (PostX.ext (kp.ext ha) h)
theorem xs_set (j : Nat) (hj : j ≠ 0) {x : Str} {pos' : Pos} (hN : X.N.Nodup) (hi : X.N[j]? = some x) (hx : Loc X.env.scope x) (he : XE X W 0 e fe) (hs : swapsWith e (some (.Name x pos')) pos.line X.env = pure false := by rfl)
    (hf : X.fn x = true ∨ X.env.scope.names.lookup x = some .local := by first | exact .inl rfl | exact .inr rfl | assumption) : XS X W (.Assign [.Name x pos'] e pos) (xSet j fe) :=
  imp_ps (ps_set hN hi hx he hs hf) fun D σ H ⟨hid, own, a, ρ, hS, ha, h⟩ => ⟨hid, own, a, ρ, hS, ha, PostX.part (T := fun v H1 => D.nx (σ.set j (some v)) H1) ha h fun ρ' d H1 v kp S1 rv h1 =>
    h1 (unown own j) _ H1 ⟨fun b o e _ => e, fun j b e => .inl ⟨j, (unown_le e).1⟩, fun b e => e⟩ (by rw [unown_ne (Ne.symm hj)]; exact ha) (S1.setV rv)⟩
theorem xs_do (he : XE X W 0 e fe) (hs : swapsWith e none pos.line X.env = pure false := by rfl) : XS X W (.Expr e pos) (xDo fe) :=
  imp_ps (ps_expr he hs) fun D σ H ⟨hid, own, a, ρ, hS, ha, h⟩ => ⟨hid, own, a, ρ, hS, ha, PostX.part ha h fun ρ' d H1 v kp S1 rv h1 => h1 own σ H1 Ext.refl ha S1⟩
theorem xs_ret (he : XE X W 0 e fe) : XS X W (.Return (some e) pos) (xRet fe) :=
  imp_ps (ps_ret he) fun D σ H ⟨hid, own, a, ρ, hS, ha, h⟩ => ⟨hid, own, a, ρ, hS, ha, PostX.part (T := D.rt) ha h fun ρ' d H1 v kp S1 rv h1 => h1 own σ H1 v Ext.refl ha S1 rv⟩
theorem xs_while (n : Nat) {c : Expr} {body : List Stmt} {t : TF} {fb : XF} (hp : PassesOwn (model X.prog X.w) X.A X.env X.xe) (hc : DT X W c t) (hb : XSs X W body fb) : XS X W (.While c body [] pos) (whileX t fb n) := by
  refine imp_ps (ps_while hp hc hb) fun D σ H ⟨hid, own, a, ρ, hS, ha, h⟩ => ?_
  refine ⟨fun m σ' H' => ∃ own' ρ', Ext own own' H H' ∧ own' 0 = some a ∧ SR X.K hid own' H' ρ' σ' ∧ PostX X.K X.mg W hid own' a H' D (whileX t fb m ρ'), ⟨n, own, ρ, Ext.refl, ha, hS, h⟩, ?_⟩
  rintro m σ2 H2 ⟨own2, ρ2, x2, a2, S2, h2⟩
  refine ⟨hid, own2, ρ2, S2, ?_⟩
  cases m with
  | zero => exact h2.elim
  | succ m =>
    unfold whileX at h2
    cases et : t ρ2 with
    | exc c => rw [et] at h2; exact fun H1 s => h2 own2 σ2 H1 (Ext.same s)
    | bad => rw [et] at h2; exact h2.elim
    | ok b =>
      rw [et] at h2
      intro H3 s3
      have S3 := S2.mono s3
      have h2 := PostX.ext (Ext.same s3) h2
      have x3 := x2.trans (Ext.same s3)
      cases b with
      | false => rw [if_neg Bool.false_ne_true]; exact h2 own2 σ2 H3 Ext.refl a2 S3
      | true =>
        rw [if_pos rfl]
        refine ⟨fun σ' H' => ∃ own' ρ', Ext own own' H H' ∧ own' 0 = some a ∧ SR X.K hid own' H' ρ' σ' ∧ PostX X.K X.mg W hid own' a H' D (whileX t fb m ρ'), fun σ' H' q => ⟨m, Nat.lt_succ_self m, q⟩, hid, own2, a, ρ2, S3, a2, ?_⟩
        have h2 : PostX X.K X.mg W hid own2 a H3 D (match fb ρ2 with | .nx ρ2 => whileX t fb m ρ2 | r => r) := h2
        cases eb : fb ρ2 with
        | nx ρ4 => rw [eb] at h2; exact fun own4 σ4 H4 x4 a4 S5 => ⟨own4, ρ4, x3.trans x4, a4, S5, PostX.ext x4 h2⟩
        | rt ρ4 d4 => rw [eb] at h2; exact h2
        | exc c4 => rw [eb] at h2; exact h2
        | bad => rw [eb] at h2; exact h2.elim
end

/-! ### name.f = e, name.f += e -/
def xFld (c f : Str) (fe : EF) : XF := fun ρ => match fe ρ with
  | .ok e => if okE e = true then (match ρ[(0 : Nat)]? with
    | some (some (true, .obj c' ns xs)) => if c' = c ∧ ns.length < 1000 then .nx (ρ.set 0 (some (true, .obj c (fldN f ns) (fldS f e.2 ns xs)))) else .bad
    | _ => .bad) else .bad
  | .exc c => .exc c
  | .bad => .bad
def xAug (c f : Str) (fe : EF) : XF := fun ρ => match ρ[(0 : Nat)]? with
  | some (some (true, .obj c' ns xs)) => if c' = c ∧ ns.length < 1000 then (match fldG f ns xs, fe ρ with
    | some (.int i), .ok (_, .int j) => .nx (ρ.set 0 (some (true, .obj c (fldN f ns) (fldS f (.int (i + j)) ns xs))))
    | some (.int i), .exc c => .exc c
    | _, _ => .bad) else .bad
  | _ => .bad
section
variable {X : Cx} {W : WX} {e : Expr} {fe : EF} {c f y : Str} {C : Addr} {q p1 p2 pos : Pos}
theorem fld_sr {K : PySem.W.Frag} {hid : Addr → Prop} {own : Own} {a dx : Addr} {H : Hp} {ρ : Ro} {σ : L2.St} {ns : List Str} {xs : List D} {us : List V} {d : D} {v : V} (hC : PySem.W.nsIn K mainGlobals c = some (some (.ref C))) (S : SR K hid own H ρ σ) (ha : own 0 = some a) (hl : ns.length = us.length)
    (r : RpL K (hd H (ob hid own)) xs us) (rv : Rp K (hd H (ob hid own)) d v) : Kp a H (upd H a (.ins C dx (putF f v (ns.zip us)))) ∧ SR K hid own (upd H a (.ins C dx (putF f v (ns.zip us)))) (ρ.set 0 (some (true, .obj c (fldN f ns) (fldS f d ns xs)))) σ := by
  have nn : H a ≠ none := S.dom a (.inr ⟨0, ha⟩)
  have kp : Kp a H (upd H a (.ins C dx (putF f v (ns.zip us)))) := ⟨fun b o e n => by rw [upd_ne n]; exact e, fun b e => by
    by_cases z : b = a
    · rw [z, upd_same] at e; cases e
    · rw [upd_ne z] at e; exact e⟩
  obtain ⟨ws, q1, q2, q3⟩ := fldS_rp (f := f) rv r hl
  refine ⟨kp, S.io ha kp ⟨ws, ⟨C, dx, hC, q2, by rw [upd_same, q1]⟩, RpL.mono (kp.seen ha) _ _ q3⟩⟩
theorem xs_fld (hC : PySem.W.nsIn X.K mainGlobals c = some (some (.ref C))) (hc : Cls X.K C) (hn : NoAttr X.K C f) (hv : PE X (.Name y q) (tVar 0)) (he : DE X W e fe) (hs : swapsWith e (some (.Attribute (.Name y q) f p1)) pos.line X.env = pure false := by rfl) :
    XS X W (.Assign [.Attribute (.Name y q) f p1] e pos) (xFld c f fe) := by
  refine imp_ps (ps_fld hv he hs) fun D σ H ⟨hid, own, a, ρ, hS, ha, h⟩ => ⟨hid, own, ρ, hS, ?_⟩
  unfold xFld at h
  cases r : fe ρ with
  | bad => rw [r] at h; exact h
  | exc c => rw [r] at h; exact fun H' s => h own σ H' (Ext.same s)
  | ok x =>
    rw [r] at h
    intro H1 v s1 rv
    have h : PostX X.K X.mg W hid own a H D (if okE x = true then (match ρ[(0 : Nat)]? with
      | some (some (true, .obj c' ns xs)) => if c' = c ∧ ns.length < 1000 then .nx (ρ.set 0 (some (true, .obj c (fldN f ns) (fldS f x.2 ns xs)))) else .bad
      | _ => .bad) else .bad) := h
    split at h
    · rename_i ok
      split at h
      · rename_i c' ns xs e0
        split at h
        · rename_i cc
          have S1 := hS.mono s1
          obtain ⟨a', q1, q2, us, ⟨C', dx, e1, e2, e3⟩, r3⟩ := S1.ow 0 _ e0
          rw [ha] at q1; cases q1
          rw [cc.1, hC] at e1; cases e1
          obtain ⟨kp, S2⟩ := fld_sr (f := f) (dx := dx) hC S1 ha e2 r3 (rv.clean ok)
          exact ⟨_, q2, a, C, dx, _, rfl, e3, hc, hn, by rw [List.length_zip]; exact Nat.lt_of_le_of_lt (Nat.min_le_left _ _) cc.2, h own σ _ ((Ext.same s1).trans (kp.ext ha)) ha S2⟩
        · exact h.elim
      · exact h.elim
    · exact h.elim
theorem xs_aug (hC : PySem.W.nsIn X.K mainGlobals c = some (some (.ref C))) (hc : Cls X.K C) (hn : NoAttr X.K C f) (hv : PE X (.Name y q) (tVar 0)) (he : DE X W e fe) : XS X W (.AugAssign (.Attribute (.Name y q) f p1) .Add e pos) (xAug c f fe) := by
  refine imp_ps (ps_fldaug hv he in_add) fun D σ H ⟨hid, own, a, ρ, hS, ha, h⟩ => ?_
  unfold xAug at h
  split at h
  · rename_i c' ns xs e0
    split at h
    · rename_i cc
      obtain ⟨a', q1, q2, us, ⟨C', dx, e1, e2, e3⟩, r3⟩ := hS.ow 0 _ e0
      rw [ha] at q1; cases q1
      rw [cc.1, hC] at e1; cases e1
      split at h
      · rename_i i k j g r
        obtain ⟨w, l, rw'⟩ := fldG_rp r3 e2 g
        cases (show w = _ from rw')
        refine ⟨_, q2, a, C, dx, _, _, rfl, e3, hc, hn, l, hid, own, ρ, hS, ?_⟩
        rw [r]
        intro H1 v s1 rv
        have rt := rv.rt
        have S1 := hS.mono s1
        obtain ⟨kp, S2⟩ := fld_sr (f := f) (dx := dx) (d := .int (i + j)) (v := .int (i + j)) hC S1 ha e2 (RpL.mono (hd_same s1) _ _ r3) rfl
        exact ⟨i, j, rfl, rt, dx, _, s1 _ _ e3, by rw [List.length_zip]; exact Nat.lt_of_le_of_lt (Nat.min_le_left _ _) cc.2, h own σ _ ((Ext.same s1).trans (kp.ext ha)) ha S2⟩
      · rename_i i c g r
        obtain ⟨w, l, rw'⟩ := fldG_rp r3 e2 g
        refine ⟨_, q2, a, C, dx, _, _, rfl, e3, hc, hn, l, hid, own, ρ, hS, ?_⟩
        rw [r]
        exact fun H' s => h own σ H' (Ext.same s)
      · exact h.elim
    · exact h.elim
  · exact h.elim
end

/-! ### such a def -/
def runX : SX → XO
  | .rt ρ e => (match ρ[(0 : Nat)]? with
    | some (some (true, d)) => .ok d e
    | _ => .bad)
  | .nx ρ => (match ρ[(0 : Nat)]? with
    | some (some (true, d)) => .ok d .non
    | _ => .bad)
  | .exc c => .exc c
  | .bad => .bad
def enterX (N : Nat) (d : D) (ds : List D) : Ro := some (true, d) :: enter (N - 1) ds
def fnX (N n : Nat) (f : XF) : FX := fun d ds => if ds.length = n then runX (f (enterX N d ds)) else .bad
theorem enterX_sr {K : PySem.W.Frag} {hid : Addr → Prop} {a : Addr} {H : Hp} {d : D} {ds : List D} {vs : List V} {N : List Str} (hN : N ≠ []) (hin : ∀ b, hid b → H b ≠ none) (na : ¬ hid a) (m : MR K (hd H (oa hid a)) (H a) d) (r : RpL K (hd H (oa hid a)) ds vs) :
    SR K hid (fun i => if i = 0 then some a else none) H (enterX N.length d ds) (L2.start N (.ref a :: vs)) := by
  have own0 : ∀ {i : Nat} {b : Addr}, (fun i => if i = 0 then some a else none : Own) i = some b → i = 0 ∧ b = a := fun {i b} z => by
    have z : (if i = 0 then some a else none) = some b := z
    by_cases c : i = 0
    · rw [if_pos c] at z; exact ⟨c, (Option.some.inj z).symm⟩
    · rw [if_neg c] at z; cases z
  have obs : ∀ {b}, ob hid (fun i => if i = 0 then some a else none) b ↔ oa hid a b := fun {b} =>
    ⟨fun z => z.elim .inl fun ⟨i, z⟩ => .inr (own0 z).2, fun z => z.elim .inl fun z => .inr ⟨0, by rw [z]; rfl⟩⟩
  have to : Same (hd H (oa hid a)) (hd H (ob hid (fun i => if i = 0 then some a else none))) := hd_mono fun b o e n => ⟨e, fun z => n (obs.mp z)⟩
  have hl := r.len
  have hp : 1 ≤ N.length := by
    cases N with
    | nil => exact absurd rfl hN
    | cons x y => simp
  refine ⟨?_, fun i d' e => ?_, fun i d' e => ?_, fun i j b e1 e2 => ?_, fun i b e => ?_, hin⟩
  · simp [enterX, enter, L2.start, hl]
    omega
  · cases i with
    | zero => cases e
    | succ i =>
      have e : (enter (N.length - 1) ds)[i]? = some (some (false, d')) := e
      unfold enter at e
      by_cases hi : i < ds.length
      · rw [List.getElem?_append_left (by simpa using hi), List.getElem?_map] at e
        cases ed : ds[i]? with
        | none => rw [ed] at e; cases e
        | some d2 =>
          rw [ed] at e
          cases e
          obtain ⟨v, e1, e2⟩ := r.get ed
          refine ⟨v, ?_, Rp.mono to _ _ e2⟩
          unfold L2.start
          rw [List.getElem?_append_left (by rw [List.length_map, List.length_cons, hl]; omega), List.getElem?_map, List.getElem?_cons_succ, e1]
          rfl
      · rw [List.getElem?_append_right (by simpa using hi), List.getElem?_replicate] at e
        split at e <;> cases e
  · cases i with
    | zero =>
      cases e
      exact ⟨a, rfl, rfl, m.mono to⟩
    | succ i =>
      have e : (enter (N.length - 1) ds)[i]? = some (some (true, d')) := e
      unfold enter at e
      by_cases hi : i < ds.length
      · rw [List.getElem?_append_left (by simpa using hi), List.getElem?_map] at e
        cases ed : ds[i]? with
        | none => rw [ed] at e; cases e
        | some d2 => rw [ed] at e; cases e
      · rw [List.getElem?_append_right (by simpa using hi), List.getElem?_replicate] at e
        split at e <;> cases e
  · rw [(own0 e1).1, (own0 e2).1]
  · obtain ⟨z1, z2⟩ := own0 e
    subst z1 z2
    obtain ⟨q, eq, oq⟩ := m.ownd
    exact ⟨na, ⟨q, eq, oq⟩, d, rfl⟩
theorem runX_post {K : PySem.W.Frag} {mg : Str → Option Value} {hid : Addr → Prop} {a : Addr} {H : Hp} {Q : VK} {E : XK} {r : SX} (h : PostF K mg hid a H Q E (runX r)) :
    PostX K mg (fun cls d _ H => E cls d H) hid (fun i => if i = 0 then some a else none) a H { nx := fun _ H' => Q .non H', rt := Q } r := by
  have kp : ∀ {own' : Own} {H' : Hp}, Ext (fun i => if i = 0 then some a else none) own' H H' → Kp a H H' := fun x => ⟨(fun b o e n => x.keep b o e fun i z => by
    have z : (if i = 0 then some a else none) = some b := z
    by_cases c : i = 0
    · rw [if_pos c] at z; exact n (Option.some.inj z).symm
    · rw [if_neg c] at z; cases z), x.free⟩
  have to : ∀ {own' : Own} {H' : Hp}, own' 0 = some a → Same (hd H' (ob hid own')) (hd H' (oa hid a)) := fun ha => hd_mono fun b o e n => ⟨e, fun z => n (z.elim .inl fun z => .inr ⟨0, by rw [z]; exact ha⟩)⟩
  cases r with
  | bad => exact h
  | exc c => exact fun own' σ' H' x C hC => h H' (kp x) C hC
  | nx ρ =>
    intro own' σ' H' x ha S
    have h : PostF K mg hid a H Q E (match ρ[(0 : Nat)]? with | some (some (true, d)) => .ok d .non | _ => .bad) := h
    split at h
    · rename_i d e0
      obtain ⟨a', q1, _, m⟩ := S.ow 0 d e0
      rw [ha] at q1; cases q1
      exact h H' .non (kp x) (m.mono (to ha)) rfl
    · exact h.elim
  | rt ρ d' =>
    intro own' σ' H' v x ha S rv
    have h : PostF K mg hid a H Q E (match ρ[(0 : Nat)]? with | some (some (true, d)) => .ok d d' | _ => .bad) := h
    split at h
    · rename_i d e0
      obtain ⟨a', q1, _, m⟩ := S.ow 0 d e0
      rw [ha] at q1; cases q1
      exact h H' v (kp x) (m.mono (to ha)) (Rp.mono (to ha) _ _ rv)
    · exact h.elim
section
variable {P : Program} {w : World} {K : PySem.W.Frag} {mg : Str → Option Value} {base : Heap}
theorem spX_len {n : Nat} {F : FX} {vs : List V} {H : Hp} {Q : VK} {E : XK} (h : spX K mg n F vs H Q E) : vs.length = n + 1 := by
  obtain ⟨hid, a, d, ds, us, e, _, _, _, r, hl, _⟩ := h
  rw [e, List.length_cons, r.len, hl]
theorem fn_denX {x qual : Str} {st : Stmt} {f : Addr} {fd : FuncData} {N ps : List Str} {k n : Nat} {fb : XF} (F : Fun K x qual st f fd) (S : FnScope N ps (defScope st)) (hn : ps.length = n + 1) (hN : N ≠ [])
    (hbody : ∀ (cdv : Value) (A : Around) (outer : List Env) (s : Shared) (H : Hp) (E : XK), Room k (A.deeper (PyProof.Rows.envOfC qual (defScope st) s.heap.objs.size f cdv)) → XSs (cxOf (L2.CX P w) P w K mg base N qual (defScope st) f cdv A outer s H E) (fun cls d _ H => E cls d H) (defBody st) fb) :
    FnOk P w K mg base (L2.CX P w) (k + 1) f fd ps (spX K mg n (fnX N.length n fb)) := by
  refine Fun.okX F S (fun vs H Q E h => by rw [spX_len h, hn]) fun cdv A outer s H vs Q E hr ⟨hid, a, d, ds, us, e, hin, na, m, r, hl, h⟩ => ?_
  subst e
  refine ⟨_, hbody cdv A outer s H E hr, ?_⟩
  have e : fnX N.length n fb d ds = runX (fb (enterX N.length d ds)) := if_pos hl
  rw [e] at h
  exact ⟨hid, _, a, _, enterX_sr hN hin na m r, rfl, runX_post h⟩
theorem fn_badX {f : Addr} {fd : FuncData} {ps : List Str} {k n : Nat} (hn : ps.length = n + 1) : FnOk P w K mg base (L2.CX P w) k f fd ps (spX K mg n fun _ _ => .bad) :=
  ⟨fun vs H Q E h => by rw [spX_len h, hn], fun A outer s H args us vs Q E _ _ _ _ ⟨_, _, _, _, _, _, _, _, _, _, _, h⟩ => h.elim⟩
end

/-! ### in a plain def: x = f(name, ..) of an own object -/
def sSetX (j i : Nat) (f : XEF) : SF := fun ρ => match f ρ with
  | .ok ρ' d => .nx (ρ'.set j (some (false, d)))
  | .exc c => .exc c (ρ.set i none)
  | .bad => .bad
theorem ds_setX {X : Cx} {W : WX} (j : Nat) {i : Nat} {x : Str} {pos' pos : Pos} {e : Expr} {fe : XEF} (hown : ∀ ρ, (∀ d, ρ[i]? ≠ some (some (true, d))) → fe ρ = .bad) (hN : X.N.Nodup) (hi : X.N[j]? = some x) (hx : Loc X.env.scope x) (he : XE X W i e fe) (hs : swapsWith e (some (.Name x pos')) pos.line X.env = pure false := by rfl)
    (hf : X.fn x = true ∨ X.env.scope.names.lookup x = some .local := by first | exact .inl rfl | exact .inr rfl | assumption) : DS X W (.Assign [.Name x pos'] e pos) (sSetX j i fe) := by
  refine imp_ps (ps_set hN hi hx he hs hf) fun D σ H ⟨hid, own, ρ, hS, h⟩ => ?_
  unfold sSetX at h
  have key : ∃ a, own i = some a := Classical.byContradiction fun nz => by
    have : fe ρ = .bad := hown ρ fun d e0 => by
      obtain ⟨a, q, _⟩ := hS.ow i d e0
      exact nz ⟨a, q⟩
    rw [this] at h
    exact h.elim
  obtain ⟨a, ha⟩ := key
  refine ⟨hid, own, a, ρ, hS, ha, ?_⟩
  cases r : fe ρ with
  | bad => rw [r] at h; exact h.elim
  | exc c => rw [r] at h; exact fun H' kp => h (unown own i) σ H' (kp.extX ha) (hS.ioX ha kp)
  | ok ρ' d =>
    rw [r] at h
    exact fun H' v kp S' rv => h (unown own j) _ H' ((kp.ext ha).trans ⟨fun b o e _ => e, fun j b e => .inl ⟨j, (unown_le e).1⟩, fun b e => e⟩) (S'.setV rv)
theorem xApp_own {i n : Nat} {p : D → Bool} {F : FX} {fs : AF} : ∀ ρ : Ro, (∀ d, ρ[i]? ≠ some (some (true, d))) → xApp i n p F fs ρ = .bad := fun ρ h => by
  unfold xApp
  split
  · rename_i d e; exact absurd e (h d)
  · rfl
end PL
set_option Elab.async false
set_option linter.all false
set_option maxRecDepth 100000
set_option maxHeartbeats 4000000
/-! PL14: tuples of the module, tuples added, int of a text, str of a text, texts in texts, replace with a count, split behind replace. -/
namespace PL
open PySem PySem.Spec L2 Builtin.Str

/-! ### a tuple that the top has written -/
def KTup (K : PySem.W.Frag) (a : Addr) (ns : List (List Nat)) : Prop :=
  ∃ (o : Obj) (its : Array Value) (n : Nat), K.lookup a = some o ∧ o.cls = .type "tuple" ∧ o.data = .seq its n ∧ its.size ≤ sizeLine ∧ Vals ((ns.map S).map V.str) its.toList
def gInT (neg : Bool) : D → D → R Ev
  | .str x, .tup ds => match unS ds with
    | some ns => .ok (.cl, .bl (if neg then !ns.contains x else ns.contains x))
    | none => .bad
  | _, _ => .bad
theorem opg_inT {K : PySem.W.Frag} {neg : Bool} : OpG K (rIn K neg) (gInT neg) := by
  intro hid own H Wx x y dx dy Q hb rx ry q
  unfold gInT at q
  split at q
  · rename_i z ds
    split at q
    · rename_i ns en
      obtain ⟨a, vs, e1, e2, e3⟩ := ry
      rw [unS_some en] at e3
      have := e3.strs
      subst this
      refine ⟨a, _, e1, .inr (same_seqT hd_le e2), by rw [show x = _ from rx]; rfl, flat_strs ns, ?_⟩
      rw [show x = _ from rx, inV_strs]
      exact q.now rfl
    · exact q.elim
  · exact q.elim
section
variable {X : Cx} {W : WX} {a b : Expr} {fa fb : EF} {x : Str} {p pos : Pos} {d : Addr} {ns : List (List Nat)}
theorem de_gtup (h : KTup X.K d ns) (hg : Gl X x) (hm : X.mg x = some (.ref d)) (hd : (x == ("__debug__" : Str)) = false := by decide) : DE X W (.Name x p) (eC (.tup (ns.map D.str))) :=
  imp_pe (pe_glob (v := .ref d) hg hm rfl hd) fun σ H Q ⟨hid, own, ρ, hS, q⟩ => q H _ (Same.refl _) ⟨d, _, rfl, .inr h, RpL.of_strs ns⟩
theorem de_inT (ha : DE X W a fa) (hb : DE X W b fb) (hm : behindInMarks .In b = false := by rfl) : DE X W (.Compare a [.In] [b] pos) (op2 (gInT false) fa fb) := de_cmp op_in_seq opg_inT ha hb hm
theorem dt_inT (ha : DE X W a fa) (hb : DE X W b fb) (hm : behindInMarks .In b = false := by rfl) : DT X W (.Compare a [.In] [b] pos) (t2 (gInT false) fa fb) := dt_cmp op_in_seq opg_inT ha hb hm
end

/-! ### tuples added -/
def gCatT : D → D → R Ev
  | .tup a, .tup b => if a ≠ [] ∧ a.length + b.length ≤ 16777216 then .ok (.cl, .tup (a ++ b)) else .bad
  | _, _ => .bad
theorem opg_catT {K : PySem.W.Frag} : OpG K (rCatT K) gCatT := by
  intro hid own H Wx x y dx dy Q hb rx ry q
  unfold gCatT at q
  split at q
  · rename_i da db
    split at q
    · rename_i h
      obtain ⟨p1, vs, e1, e2, e3⟩ := rx
      obtain ⟨p2, ws, f1, f2, f3⟩ := ry
      refine ⟨p1, p2, vs, ws, e1, f1, same_seqT hd_le e2, same_seqT hd_le f2, fun z => h.1 (List.length_eq_zero_iff.mp (by rw [← e3.len, z]; rfl)), by rw [e3.len, f3.len, sizeLine_eq]; exact h.2, fun z => ?_, fun _ p np => q.newT np (no_dom hb np) (e3.app f3)⟩
      have eb : db = [] := List.length_eq_zero_iff.mp (by rw [← f3.len, z]; rfl)
      subst eb
      rw [List.append_nil] at q
      exact q.now ⟨p1, vs, rfl, e2, e3⟩
    · exact q.elim
  · exact q.elim
theorem de_catT {X : Cx} {W : WX} {a b : Expr} {fa fb : EF} {pos : Pos} (ha : DE X W a fa) (hb : DE X W b fb) : DE X W (.BinOp a .Add b pos) (op2 gCatT fa fb) := de_op op_catT opg_catT ha hb

/-! ### int of a text of one or two digits; str of a text -/
def dig (c : Nat) : Bool := 48 ≤ c && c ≤ 57
def gIntS : D → R Ev
  | .str [c] => if dig c = true then .ok (.cl, .int ((c - 48 : Nat) : Int)) else .bad
  | .str [c, d] => if dig c = true ∧ dig d = true then .ok (.cl, .int ((10 * (c - 48) + (d - 48) : Nat) : Int)) else .bad
  | _ => .bad
theorem int1_all : ∀ i : Fin 10, PySem.intText? (S [48 + i.val]) = some ((i.val : Nat) : Int) := by decide +kernel
theorem int2_all : ∀ i j : Fin 10, PySem.intText? (S [48 + i.val, 48 + j.val]) = some ((10 * i.val + j.val : Nat) : Int) := by decide +kernel
theorem dig_fin {c : Nat} (h : dig c = true) : ∃ i : Fin 10, c = 48 + i.val := by
  unfold dig at h
  rw [Bool.and_eq_true, decide_eq_true_eq, decide_eq_true_eq] at h
  exact ⟨⟨c - 48, by omega⟩, by show c = 48 + (c - 48); omega⟩
theorem cg_ints {K : PySem.W.Frag} : CallG K (fun xs H Q => ∃ a n, xs = [.str a] ∧ PySem.intText? a = some n ∧ a.length ≤ 640 ∧ Q (.int n) H) gIntS := by
  intro hid own H Wx x dx Q hb rx q
  unfold gIntS at q
  split at q
  · rename_i c
    split at q
    · rename_i h
      obtain ⟨i, rfl⟩ := dig_fin h
      rw [show (48 + i.val - 48 : Nat) = i.val by omega] at q
      exact ⟨_, _, by rw [show x = _ from rx], int1_all i, by rw [S_len]; show 1 ≤ 640; decide, q.now rfl⟩
    · exact q.elim
  · rename_i c d
    split at q
    · rename_i h
      obtain ⟨i, rfl⟩ := dig_fin h.1
      obtain ⟨j, rfl⟩ := dig_fin h.2
      rw [show (48 + i.val - 48 : Nat) = i.val by omega, show (48 + j.val - 48 : Nat) = j.val by omega] at q
      exact ⟨_, _, by rw [show x = _ from rx], int2_all i j, by rw [S_len]; show 2 ≤ 640; decide, q.now rfl⟩
    · exact q.elim
  · exact q.elim
/-- str of a number or a text -/
def gStrA : D → R Ev
  | .str a => .ok (.cl, .str a)
  | d => gStr d
theorem callR_or {X : Cx} {f : Value} {r r' : List V → Hp → VK → Prop} (h : CallR X f r) (h' : CallR X f r') : CallR X f (fun xs H Q => r xs H Q ∨ r' xs H Q) := fun pins s σ H xs us Q I rv q => q.elim (h pins s σ H xs us Q I rv) (h' pins s σ H xs us Q I rv)
theorem cg_strA {K : PySem.W.Frag} : CallG K (fun xs H Q => (∃ a, xs = [.str a] ∧ Q (.str a) H) ∨ ∃ i, xs = [.int i] ∧ i.natAbs.log2 < 1920 ∧ Q (.str (toString i)) H) gStrA := by
  intro hid own H Wx x dx Q hb rx q
  cases dx with
  | str a => exact .inl ⟨S a, by rw [show x = _ from rx], q.now rfl⟩
  | int i => exact .inr (cg_str hb rx q)
  | _ => exact q.elim
section
variable {X : Cx} {W : WX} {e : Expr} {fa : EF} {p pos : Pos}
theorem de_ints (hg : Gl X "int") (hm : X.mg "int" = none) (ha : DE X W e fa) (hs : starEach [e] X.env = (false, eval e X.env) :: starEach [] X.env := by rfl) : DE X W (.Call (.Name "int" p) [e] [] pos) (op1 gIntS fa) := de_callT call_int_str cg_ints hg hm bt_int ha hs
theorem de_strA (hg : Gl X "str") (hm : X.mg "str" = none) (ha : DE X W e fa) (hs : starEach [e] X.env = (false, eval e X.env) :: starEach [] X.env := by rfl) : DE X W (.Call (.Name "str" p) [e] [] pos) (op1 gStrA fa) := de_callT (callR_or SkE.call_str_str call_str_int) cg_strA hg hm bt_str ha hs
end

/-! ### a text in a text -/
/-- does y stand somewhere in z? -/
def subS (y : List Nat) : List Nat → Bool
  | [] => TL.pre y []
  | c :: r => TL.pre y (c :: r) || subS y r
theorem subS_iff {y : List Nat} : ∀ {z : List Nat}, subS y z = true ↔ ∃ i, TL.pre y (z.drop i) = true
  | [] => by
    show TL.pre y [] = true ↔ _
    exact ⟨fun h => ⟨0, h⟩, fun ⟨i, h⟩ => by rwa [List.drop_nil] at h⟩
  | c :: r => by
    show (TL.pre y (c :: r) || subS y r) = true ↔ _
    rw [Bool.or_eq_true, subS_iff (z := r)]
    constructor
    · rintro (h | ⟨i, h⟩)
      · exact ⟨0, h⟩
      · exact ⟨i + 1, h⟩
    · rintro ⟨i, h⟩
      cases i with
      | zero => exact .inl h
      | succ i => exact .inr ⟨i, h⟩
theorem occ_sub {y z : List Nat} (hy : y ≠ []) : (!(occurrences (S z) (S y) 0 (S z).length 1).isEmpty) = subS y z := by
  have ht : TL.tl (S y) ≠ [] := by rw [show TL.tl (S y) = y from S_cps y]; exact hy
  have at' : ∀ i, StrLaws.At (S z) (S y) (S z).length i ↔ TL.pre y (z.drop i) = true := fun i => by
    rw [TL.at_iff ht, show TL.tl (S y) = y from S_cps y, show TL.tl (S z) = z from S_cps z]
  rcases StrLaws.occ_head (S z) (S y) 1 (Nat.le_refl 1) with ⟨h, hn⟩ | ⟨i, r, h, hA, _⟩
  · rw [h]
    symm
    cases e : subS y z with
    | false => rfl
    | true =>
      obtain ⟨i, hi⟩ := subS_iff.mp e
      exact absurd ((at' i).mpr hi) (hn i)
  · rw [h]
    exact (subS_iff.mpr ⟨i, (at' i).mp hA⟩).symm
def gInX (neg : Bool) : D → D → R Ev
  | .str y, .str z => if y ≠ [] then .ok (.cl, .bl (if neg then !subS y z else subS y z)) else .bad
  | _, _ => .bad
theorem opg_inX {K : PySem.W.Frag} : OpG K (fun x y H Q => ∃ i j, x = .str i ∧ y = .str j ∧ Q (.bl (!(occurrences j i 0 j.length 1).isEmpty)) H) (gInX false) := by
  intro hid own H Wx x y dx dy Q hb rx ry q
  unfold gInX at q
  split at q
  · rename_i a z
    split at q
    · rename_i h
      exact ⟨S a, S z, rx, ry, by rw [occ_sub h]; exact q.now rfl⟩
    · exact q.elim
  · exact q.elim
theorem opg_ninX {K : PySem.W.Frag} : OpG K (fun x y H Q => ∃ i j, x = .str i ∧ y = .str j ∧ Q (.bl (!(!(occurrences j i 0 j.length 1).isEmpty))) H) (gInX true) := by
  intro hid own H Wx x y dx dy Q hb rx ry q
  unfold gInX at q
  split at q
  · rename_i a z
    split at q
    · rename_i h
      exact ⟨S a, S z, rx, ry, by rw [occ_sub h]; exact q.now rfl⟩
    · exact q.elim
  · exact q.elim
section
variable {X : Cx} {W : WX} {a b : Expr} {fa fb : EF} {pos : Pos}
theorem de_inX (ha : DE X W a fa) (hb : DE X W b fb) (hm : behindInMarks .In b = false := by rfl) : DE X W (.Compare a [.In] [b] pos) (op2 (gInX false) fa fb) := de_cmp op_in_str opg_inX ha hb hm
theorem de_ninX (ha : DE X W a fa) (hb : DE X W b fb) (hm : behindInMarks .NotIn b = false := by rfl) : DE X W (.Compare a [.NotIn] [b] pos) (op2 (gInX true) fa fb) := de_cmp op_notin_str opg_ninX ha hb hm
theorem dt_inX (ha : DE X W a fa) (hb : DE X W b fb) (hm : behindInMarks .In b = false := by rfl) : DT X W (.Compare a [.In] [b] pos) (t2 (gInX false) fa fb) := dt_cmp op_in_str opg_inX ha hb hm
theorem dt_ninX (ha : DE X W a fa) (hb : DE X W b fb) (hm : behindInMarks .NotIn b = false := by rfl) : DT X W (.Compare a [.NotIn] [b] pos) (t2 (gInX true) fa fb) := dt_cmp op_notin_str opg_ninX ha hb hm
end

/-! ### replace(sign, text, 1) -/
def rep1 (c : Nat) (z : List Nat) : List Nat → List Nat
  | [] => []
  | d :: r => if d = c then z ++ r else d :: rep1 c z r
theorem rep1_out {c : Nat} {z : List Nat} : ∀ {l : List Nat}, c ∉ l → rep1 c z l = l
  | [], _ => rfl
  | d :: r, h => by
    show (if d = c then _ else _) = _
    rw [if_neg fun e => h (by rw [e]; exact List.mem_cons_self), rep1_out fun m => h (List.mem_cons_of_mem _ m)]
theorem rep1_app {c : Nat} {z b : List Nat} : ∀ {l : List Nat}, c ∉ l → rep1 c z (l ++ c :: b) = l ++ z ++ b
  | [], _ => by
    show (if c = c then _ else _) = _
    rw [if_pos rfl]; rfl
  | d :: r, h => by
    show (if d = c then _ else d :: rep1 c z (r ++ c :: b)) = _
    rw [if_neg fun e => h (by rw [e]; exact List.mem_cons_self), rep1_app fun m => h (List.mem_cons_of_mem _ m)]; rfl
/-- the cuts of one replacement -/
theorem cut1 {c : Nat} {z : List Nat} : (occurrences (S z) (S [c]) 0 (S z).length 1 = [] ∧ c ∉ z) ∨ ∃ a b, z = a ++ c :: b ∧ c ∉ a ∧ occurrences (S z) (S [c]) 0 (S z).length 1 = [a.length] := by
  by_cases m : c ∈ z
  · obtain ⟨a, b, e, n⟩ := split_mem m
    have h : fndL c 0 z = some a.length := by rw [e, fndL_app n, Nat.zero_add]
    obtain ⟨r, hr⟩ := index_S h
    have hl := StrLaws.occ_length_le (S z) (S [c]) 0 (S z).length 1
    rw [hr] at hl
    have : r = [] := List.length_eq_zero_iff.mp (by rw [List.length_cons] at hl; omega)
    rw [this] at hr
    exact .inr ⟨a, b, e, n, hr⟩
  · have hs := occ_sub (y := [c]) (z := z) (List.cons_ne_nil _ _)
    refine .inl ⟨?_, m⟩
    cases e : occurrences (S z) (S [c]) 0 (S z).length 1 with
    | nil => rfl
    | cons i r =>
      rw [e] at hs
      obtain ⟨i, hi⟩ := subS_iff.mp hs.symm
      refine absurd ?_ m
      cases q : z.drop i with
      | nil => rw [q] at hi; exact absurd hi (by show ¬ (([] : List Nat) == [c]) = true; simp)
      | cons d s =>
        rw [q] at hi
        have e1 : d = c := by
          have hi : ([d] == [c]) = true := hi
          simpa using hi
        rw [← e1]
        exact List.mem_of_mem_drop (by rw [q]; exact List.mem_cons_self)
theorem replace1_tree (x y z : Str) (t u v k : Tok) : «Builtin».«str.replace» ⟨[.str x t, .str y u, .str z v, .int 1 k], []⟩ =
    (if ((occurrences x y 0 x.length 1).isEmpty || (y.length == 0 && z.length == 0)) = true then (do rule "str.replace.nothing"; ret (.str x t)) else
      (do let same ← isSame (.str y u) (.str z v)
          if same = true then (do rule "str.replace.old-is-new"; ret (.str x t)) else
          if tooLong (x.length + (occurrences x y 0 x.length 1).length * z.length) = true then unsupported "str.replace:memory" else
          retStr (glued z (partsBetween x (occurrences x y 0 x.length 1) y.length)))) := by
  show (do let limit ← countLimit "str.replace" (some (.int 1 k)) (x.length + 1); _) = _
  rw [countLimit_int "str.replace" 1 k (x.length + 1) (by decide)]
  rfl
section
variable {prog : Program} {w : World} {A : Around} {E : Value → Shared → Prop} {s : Shared} {t u v k : Tok} {Q : Value → Shared → Prop} {c : Nat} {z x : List Nat}
theorem wp_repl1 (hu : u ≠ 0) (hv : v ≠ 0) (huv : u ≠ v) (hyz : [c] ≠ z) (hb : x.length + z.length ≤ 16777216)
    (hq : ∀ t' k, Q (.str (S (rep1 c z x)) t') { s with toks := k }) : wpAny (model prog w) A (call (.builtin "str.replace") [.str (S x) t, .str (S [c]) u, .str (S z) v, .int 1 k]) Q E s := by
  have hyz' : (S [c] == S z) = false := beq_false_of_ne fun e => hyz (S_inj e)
  have tree := replace1_tree (S x) (S [c]) (S z) t u v k
  rcases cut1 (c := c) (z := x) with ⟨h, hn⟩ | ⟨a, b, e, n, h⟩
  · rw [h] at tree
    refine call_gives F.slot_str_replace (typeIs_str _ _ _) F.entry_str_replace (F.args_str_replace_4 _ _ _ _) (m := .val (.str (S x) t)) ?_ ?_
    · rw [tree]; exact .rule (.of_eq rfl)
    · have := hq t s.toks
      rw [rep1_out hn] at this
      exact this
  · rw [h] at tree
    have hl : tooLong ((S x).length + [a.length].length * (S z).length) = false := by
      unfold tooLong
      rw [sizeLine_eq, S_len, S_len]
      exact decide_eq_false (by simp; omega)
    have gl : glued (S z) (partsBetween (S x) [a.length] (S [c]).length) = S (rep1 c z x) := TL.ext_tl (by
      show (glued (S z) (partsBetween (S x) [a.length] (S [c]).length)).cps.toList = (S (rep1 c z x)).cps.toList
      rw [StrLaws.partsBetween_eq]
      show (glued (S z) (strSub (S x) 0 a.length :: [strSub (S x) (a.length + (S [c]).length) (S x).length])).cps.toList = _
      rw [StrLaws.glued_list]
      show (strSub (S x) 0 a.length).cps.toList ++ ((S z).cps.toList ++ ((strSub (S x) (a.length + (S [c]).length) (S x).length).cps.toList ++ [])) = _
      rw [StrLaws.strSub_toList, StrLaws.strSub_toList, S_cps, S_cps, S_cps, S_len, S_len, List.append_nil, List.drop_zero, Nat.sub_zero, e, rep1_app n, List.take_left, List.length_append, List.length_cons]
      rw [show (a ++ c :: b).drop (a.length + [c].length) = b by
        rw [show a ++ c :: b = (a ++ [c]) ++ b by simp, show a.length + [c].length = (a ++ [c]).length by simp]
        exact List.drop_left ..]
      rw [List.take_of_length_le (by simp; omega), List.append_assoc])
    refine call_gives F.slot_str_replace (typeIs_str _ _ _) F.entry_str_replace (F.args_str_replace_4 _ _ _ _) (m := .str (S (rep1 c z x))) ?_ ⟨?_, hq _ _⟩
    · rw [tree, if_neg (by rw [S_len]; exact Bool.false_ne_true), isSame_str_other (S [c]) (S z) u v (by simp [hu, hv]) (by simp [huv]) hyz', hl, gl]
      exact .of_eq rfl
    · rw [S_len, sizeLine_eq]
      have : (rep1 c z x).length ≤ x.length + z.length := by rw [e, rep1_app n]; simp; omega
      omega
end
def gRep1 (c : Nat) (z : List Nat) : D → R Ev
  | .str x => if x.length + z.length ≤ 16777216 then .ok (.cl, .str (rep1 c z x)) else .bad
  | _ => .bad
section
variable {X : Cx} {W : WX} {o e : Expr} {fo fe : EF} {i j k : Nat} {c0 c1 c2 apos pos : Pos} {ys zs : Str}
theorem det_rep1 (c : Nat) (z : List Nat) (ho : DE X W o fo) (ey : ys = S [c] := by decide +kernel) (ez : zs = S z := by decide +kernel) (hyz : [c] ≠ z := by decide)
    (hst : starEach [.Constant (.str ys) j c0, .Constant (.str zs) k c1, .Constant (.int 1) i c2] X.env = [(false, eval (.Constant (.str ys) j c0) X.env), (false, eval (.Constant (.str zs) k c1) X.env), (false, eval (.Constant (.int 1) i c2) X.env)] := by rfl)
    (hbase : attributeBase o "replace" X.env (eval o X.env) = eval o X.env := by rfl) (hline : (apos.endLine == pos.line) = true := by rfl)
    (hfew : ((backTo pos (starEach [Expr.Constant (.str ys) j c0, .Constant (.str zs) k c1, .Constant (.int 1) i c2] X.env)).all (fun x => !x.1) && (backToKw pos (keywordEach [] X.env)).all (fun x => x.1.isSome) && decide (([Expr.Constant (.str ys) j c0, .Constant (.str zs) k c1, .Constant (.int 1) i c2] : List Expr).length + ([] : List Keyword).length + (if ([] : List Keyword).isEmpty then 0 else 1) < 30)) = true := by rfl) :
    DET X W (.Call (.Attribute o "replace" apos) [.Constant (.str ys) j c0, .Constant (.str zs) k c1, .Constant (.int 1) i c2] [] pos) (op1 (gRep1 c z) fo) := by
  subst ey ez
  intro pins s σ H Q h0 I ⟨hid, own, ρ, hS, h⟩
  refine wpAny_Call_method_lateS hbase hfew hline (wpAny_mono (PySem.wpAny_toks (ho.run pins s σ H (fun v H1 => ∃ a, v = .str (S a) ∧ a.length + z.length ≤ 16777216 ∧ Q (.str (S (rep1 c z a))) H1) I ⟨hid, own, ρ, hS, Post.part h fun x H1 v s1 r1 h1 => ?_⟩)) (fun v s1 q => ?_) fun _ _ y => y.2)
  · obtain ⟨kd, d⟩ := x
    cases d with
    | str a =>
      have h1 : Post X.K hid own H1 (Wc X.mg W σ) (if a.length + z.length ≤ 16777216 then .ok (.cl, .str (rep1 c z a)) else .bad) Q := h1
      split at h1
      · rename_i hz
        exact ⟨a, r1.rt, hz, h1.now rfl⟩
      · exact h1.elim
    | _ => exact h1.elim
  · obtain ⟨hk, v', H1, I1, r1, a, e1, hb, q⟩ := q
    subst e1
    obtain ⟨tx, e2⟩ := r1
    subst e2
    refine ⟨"str", _, PySem.F.plainAttrs_str, PySem.F.slot_str_replace, PySem.F.type_str_replace, typeIs_str _ _ _, (fun _ e => nomatch e), ?_⟩
    rw [hst]
    refine Calls.callWith_builtin rfl (Calls.evalArgs_plain (Calls.spliced_cons ?_))
    refine Calls.Constant_str (pos := c0) (k := j) ?_
    show wpAny _ _ (spliced ((false, eval (.Constant (.str (S z)) k c1) X.env) :: [(false, eval (.Constant (.int 1) i c2) X.env)])) _ _ _
    refine Calls.spliced_cons (Calls.Constant_str ?_)
    show wpAny _ _ (spliced ((false, eval (.Constant (.int 1) i c2) X.env) :: [])) _ _ _
    refine Calls.spliced_cons (wpAny_Constant_int (Calls.spliced_nil ?_))
    exact wp_repl1 (by show s1.toks ≠ 0; omega) (by show s1.toks + 1 ≠ 0; omega) (by show s1.toks ≠ s1.toks + 1; omega) hyz hb fun t' k => ⟨.str (S (rep1 c z a)), H1, I1.tok k, ⟨t', rfl⟩, q⟩
/-- a method with one argument behind an expression that wants a token -/
theorem pet_m1 {to te : TE} {id : String} {name : Str} {r : V → List V → Hp → VK → Prop} (slot : Slot "str" name id) (ty : typeOf (.builtin id) = pure (.type "method_descriptor")) (rule : MtR X id r) (ho : PET X o to) (he : PE X e te)
    (hs : starEach [e] X.env = [(false, eval e X.env)]) (hbase : attributeBase o name X.env (eval o X.env) = eval o X.env) (hline : (apos.endLine == pos.line) = true) :
    PET X (.Call (.Attribute o name apos) [e] [] pos) (tM1 r to te) := by
  intro pins s σ H Q h0 I h
  refine PySem.Call_method1 hbase hs hline (thn (ho pins s σ H _ h0 I h) fun v s1 ⟨x, H1, I1, r1, ⟨a, ea⟩, q1⟩ => ?_)
  subst ea
  obtain ⟨t, et⟩ := _root_.id r1
  subst et
  exact ⟨"str", _, PySem.F.plainAttrs_str, slot, ty, typeIs_str _ _ _, (fun _ e => nomatch e), Calls.callWith_builtin rfl (Calls.evalArgs_plain (Calls.spliced_cons
    (thn (he.run pins s1 σ H1 _ I1 q1) fun u s2 ⟨y, H2, I2, r2, q2⟩ => Calls.spliced_nil (rule pins s2 σ H2 _ [y] _ [u] Q I2 r1 (.cons r2 .nil) q2))))⟩
theorem det_split (ho : DET X W o fo) (he : DE X W e fe) (hs : starEach [e] X.env = [(false, eval e X.env)] := by rfl) (hbase : attributeBase o "split" X.env (eval o X.env) = eval o X.env := by rfl) (hline : (apos.endLine == pos.line) = true := by rfl) :
    DET X W (.Call (.Attribute o "split" apos) [e] [] pos) (mth1 gSplit fo fe) := by
  refine imp_pet (pet_m1 PySem.F.slot_str_split PySem.F.type_str_split mt_split ho he hs hbase hline) fun σ H Q ⟨hid, own, ρ, hS, h⟩ => ⟨hid, own, ρ, hS, Post.part h fun x H1 v s1 r1 h1 => ?_⟩
  by_cases c : isS x.2 = true
  · rw [if_pos c] at h1
    obtain ⟨a, ea⟩ := isS_of c
    have rt := r1.rt
    rw [ea] at rt h1
    cases (show v = _ from rt)
    exact ⟨⟨_, rfl⟩, hid, own, ρ, hS.mono s1, Post.part h1 fun y H2 u s2 r2 h2 => mg_split ((hS.mono s1).mono s2).dom r2.rt h2⟩
  · rw [if_neg c] at h1; exact h1.elim
end
end PL
set_option Elab.async false
set_option linter.all false
set_option maxRecDepth 100000
set_option maxHeartbeats 4000000
/-! PL15: a dict of the module whose values are defs; try with a suite that hands out None. -/
namespace PL
open PySem PySem.Spec L2 He

/-! ### a dict that the top has written, texts by defs -/
structure KF (K : PySem.W.Frag) (w : World) (d : Addr) (m : List (List Nat × Addr)) : Prop where
  dic : ∃ es n, KDict K w d es n ∧ es.toList.map keyS = m.map fun p => some (S p.1)
  val : ∀ p ∈ m, PySem.W.nsIn K d (S p.1) = some (some (.ref p.2))
theorem KF.look {K : PySem.W.Frag} {w : World} {d : Addr} {m : List (List Nat × Addr)} (h : KF K w d m) (z : List Nat) : PySem.W.nsIn K d (S z) = some ((m.lookup z).map Value.ref) := by
  cases e : m.lookup z with
  | some f =>
    have : (z, f) ∈ m := by
      have h2 := h.val
      clear h h2
      induction m with
      | nil => cases e
      | cons q r ih =>
        rw [List.lookup_cons] at e
        by_cases c : z = q.1
        · rw [show (z == q.1) = true from beq_iff_eq.mpr c] at e
          have e := Option.some.inj e
          rw [c, ← e]; exact List.mem_cons_self
        · rw [show (z == q.1) = false from beq_false_of_ne c] at e
          exact List.mem_cons_of_mem _ (ih e)
    exact h.val _ this
  | none =>
    have hz : S z ∉ m.map fun p => S p.1 := fun y => by
      obtain ⟨p, hp, e2⟩ := List.mem_map.mp y
      have e2 := S_inj e2
      clear h
      induction m with
      | nil => cases hp
      | cons q r ih =>
        rw [List.lookup_cons] at e
        by_cases c : z = q.1
        · rw [show (z == q.1) = true from beq_iff_eq.mpr c] at e; cases e
        · rw [show (z == q.1) = false from beq_false_of_ne c] at e
          refine ih e (List.mem_map.mpr ?_) ((List.mem_cons.mp hp).resolve_left fun w => c (by rw [← e2, w]))
          exact ⟨p, (List.mem_cons.mp hp).resolve_left fun w => c (by rw [← e2, w]), by rw [e2]⟩
    obtain ⟨es, k, D, key⟩ := h.dic
    have key : es.toList.map keyS = (m.map fun p => S p.1).map some := by
      rw [key, List.map_map]
      rfl
    obtain ⟨f1, f2⟩ := no_key key hz
    unfold PySem.W.nsIn
    rw [D.at_]
    show (match es.toList.find? (·.key.isStr (S z)) with | some e => some (some e.val) | Option.none => if es.toList.any (·.refKey) then Option.none else some Option.none) = _
    rw [f1, f2]
    rfl
def gKinF (ks : List (List Nat)) : D → R Ev
  | .str z => .ok (.cl, .bl (ks.contains z))
  | _ => .bad
theorem contains_look {α : Type} (m : List (List Nat × α)) (z : List Nat) : (m.map (·.1)).contains z = (m.lookup z).isSome := by
  induction m with
  | nil => rfl
  | cons p r ih =>
    rw [List.map_cons, List.contains_cons, List.lookup_cons, ih]
    cases z == p.1 <;> rfl
theorem SR.setN {K : PySem.W.Frag} {hid : Addr → Prop} {own : Own} {H : Hp} {ρ : Ro} {σ : L2.St} (h : SR K hid own H ρ σ) {i : Nat} {v : V} : SR K hid (unown own i) H (ρ.set i none) (σ.set i (some v)) := by
  have mono : Same (hd H (ob hid own)) (hd H (ob hid (unown own i))) := hd_mono fun b o e n => ⟨e, fun z => n (ob_unown z)⟩
  refine ⟨by rw [List.length_set, List.length_set]; exact h.len, fun j d' e => ?_, fun j d' e => ?_, fun j k a e1 e2 => h.inj j k a (unown_le e1).1 (unown_le e2).1, fun j a e => ?_, h.hin⟩
  · by_cases c : i = j
    · subst c
      have hl := (List.getElem?_eq_some_iff.mp e).1
      rw [List.length_set] at hl
      rw [List.getElem?_set_self hl] at e; cases e
    · rw [List.getElem?_set_ne c] at e ⊢
      obtain ⟨u, e1, e2⟩ := h.val j d' e
      exact ⟨u, e1, Rp.mono mono _ _ e2⟩
  · by_cases c : i = j
    · subst c
      have hl := (List.getElem?_eq_some_iff.mp e).1
      rw [List.length_set] at hl
      rw [List.getElem?_set_self hl] at e; cases e
    · rw [List.getElem?_set_ne c] at e ⊢
      obtain ⟨a, e1, e2, e3⟩ := h.ow j d' e
      exact ⟨a, by rw [unown_ne (Ne.symm c)]; exact e1, e2, e3.mono mono⟩
  · obtain ⟨e1, c⟩ := unown_le e
    obtain ⟨h1, h2, d', h3⟩ := h.oh j a e1
    exact ⟨h1, h2, d', by rw [List.getElem?_set_ne (Ne.symm c)]; exact h3⟩
section
variable {X : Cx} {W : WX} {a : Expr} {fa : EF} {x : Str} {d : Addr} {m : List (List Nat × Addr)} {p pos : Pos}
theorem dt_kinF {ks : List (List Nat)} (h : KF X.K X.w d m) (hks : m.map (·.1) = ks) (hg : Gl X x) (hm : X.mg x = some (.ref d)) (ha : DE X W a fa) (hd : (x == ("__debug__" : Str)) = false := by decide) : DT X W (.Compare a [.In] [.Name x p] pos) (tE' (op1 (gKinF ks) fa)) := by
  subst hks
  obtain ⟨es, k, D, _⟩ := h.dic
  refine imp_pt (pt_cmpR (op_in_kd D) ha (pe_glob (v := .ref d) hg hm rfl hd) (by rfl)) fun σ H Q q => ?_
  obtain ⟨hid, own, ρ, hS, q⟩ := test_of σ H Q q
  refine ⟨hid, own, ρ, hS, Post.part q fun e H1 v s1 r1 h1 => ?_⟩
  obtain ⟨k1, d1⟩ := e
  cases d1 with
  | str z =>
    have h2 := h.look z
    have h1 : ∃ k, V.bl (m.lookup z).isSome = V.bl k ∧ Q k H1 := Post.now (K := X.K) h1 (by show V.bl _ = V.bl _; rw [contains_look])
    cases e : m.lookup z with
    | none => rw [e] at h2 h1; exact ⟨S z, none, r1.rt, rfl, h2, h1⟩
    | some y => rw [e] at h2 h1; exact ⟨S z, some _, r1.rt, rfl, h2, h1⟩
  | _ => exact h1.elim

/-- g = NAMES[word]; demand(g(named)): the dict holds the defs f1, f2 -/
def xNamed (ig iw im : Nat) (k1 k2 : List Nat) (F1 F2 Fd : FD) : XF := fun ρ => match ρ[iw]?, ρ[im]? with
  | some (some (false, .str w)), some (some (false, .str n)) => (match (if w = k1 then F1 [.str n] else if w = k2 then F2 [.str n] else .bad) with
    | .ok (k, r) => if isL r = false ∧ ig < ρ.length then (match Fd [r] with
      | .ok _ => .nx (ρ.set ig none)
      | .exc c => .exc c
      | .bad => .bad) else .bad
    | _ => .bad)
  | _, _ => .bad
theorem xNamed_cases {ig iw im : Nat} {k1 k2 : List Nat} {F1 F2 Fd : FD} {ρ : Ro} (h : xNamed ig iw im k1 k2 F1 F2 Fd ρ ≠ .bad) : ∃ w n r k, ρ[iw]? = some (some (false, .str w)) ∧ ρ[im]? = some (some (false, .str n)) ∧
    ((w = k1 ∧ F1 [.str n] = .ok (k, r)) ∨ (w ≠ k1 ∧ w = k2 ∧ F2 [.str n] = .ok (k, r))) ∧ isL r = false ∧ ig < ρ.length ∧
    xNamed ig iw im k1 k2 F1 F2 Fd ρ = match Fd [r] with
      | .ok _ => .nx (ρ.set ig none)
      | .exc c => .exc c
      | .bad => .bad := by
  unfold xNamed at h ⊢
  split at h
  · rename_i w n ew en
    cases e : (if w = k1 then F1 [.str n] else if w = k2 then F2 [.str n] else .bad) with
    | bad => rw [e] at h; exact absurd rfl h
    | exc c => rw [e] at h; exact absurd rfl h
    | ok x =>
      obtain ⟨k, r⟩ := x
      rw [e] at h
      have h : (if isL r = false ∧ ig < ρ.length then (match Fd [r] with
        | .ok _ => SX.nx (ρ.set ig none)
        | .exc c => .exc c
        | .bad => .bad) else .bad) ≠ .bad := h
      by_cases c : isL r = false ∧ ig < ρ.length
      · refine ⟨w, n, r, k, ew, en, ?_, c.1, c.2, ?_⟩
        · by_cases c1 : w = k1
          · rw [if_pos c1] at e; exact .inl ⟨c1, e⟩
          · rw [if_neg c1] at e
            by_cases c2 : w = k2
            · rw [if_pos c2] at e; exact .inr ⟨c1, c2, e⟩
            · rw [if_neg c2] at e; cases e
        · exact if_pos c
      · rw [if_neg c] at h; exact absurd rfl h
  · exact absurd rfl h
end
section
variable {X : Cx} {W : WX} {ig iw im l0 l1 l2 : Nat} {xD xd g wn nn : Str} {d f1 f2 fd0 : Addr} {fd1 fd2 fdd : FuncData} {ps1 ps2 psd : List Str} {k1 k2 : List Nat} {F1 F2 Fd : FD} {pg pD pw pn pg2 q1 q2 q3 q4 q5 q6 q7 : Pos} {rest : List Stmt} {f : XF}
theorem xss_named (hD : KF X.K X.w d [(k1, f1), (k2, f2)]) (hgD : Gl X xD) (hmD : X.mg xD = some (.ref d)) (hdD : (xD == ("__debug__" : Str)) = false)
    (hN : X.N.Nodup) (hig : X.N[ig]? = some g) (hgl : Loc X.env.scope g) (hgv : Vis X.env.scope g) (h0 : ig ≠ 0) (hgw : ig ≠ iw) (hgm : ig ≠ im)
    (hw : PE X (.Name wn pw) (tVar iw)) (hn : PE X (.Name nn pn) (tVar im))
    (G1 : FnOk X.prog X.w X.K X.mg X.base (L2.CX X.prog X.w) l1 f1 fd1 ps1 (spD X.K X.mg 1 F1)) (hr1 : Room l1 X.A) (hk1 : PySem.W.keepIn X.K (.ref f1) = true) (hb1 : Binds X.K fd1 ps1 [])
    (G2 : FnOk X.prog X.w X.K X.mg X.base (L2.CX X.prog X.w) l2 f2 fd2 ps2 (spD X.K X.mg 1 F2)) (hr2 : Room l2 X.A) (hk2 : PySem.W.keepIn X.K (.ref f2) = true) (hb2 : Binds X.K fd2 ps2 [])
    (Gd : FnOk X.prog X.w X.K X.mg X.base (L2.CX X.prog X.w) l0 fd0 fdd psd (spD X.K X.mg 1 Fd)) (hrd : Room l0 X.A) (hgd : Gl X xd) (hmd : X.mg xd = some (.ref fd0)) (hkd : PySem.W.keepIn X.K (.ref fd0) = true) (hbd : Binds X.K fdd psd [])
    (tk : Takes X W) (hrest : XSs X W rest f) (hg0 : (g == ("__debug__" : Str)) = false) (hg1 : (g == ("__classdict__" : Str)) = false) (hdb : (xd == ("__debug__" : Str)) = false)
    (hix : PlainIx (.Name wn pw))
    (hs1 : swapsWith (.Subscript (.Name xD pD) (.Name wn pw) q1) (some (.Name g pg)) q2.line X.env = pure false)
    (hs2 : swapsWith (.Call (.Name xd q3) [.Call (.Name g pg2) [.Name nn pn] [] q4] [] q5) none q6.line X.env = pure false)
    (hst1 : starEach [.Name nn pn] X.env = (false, eval (.Name nn pn) X.env) :: starEach [] X.env)
    (hst2 : starEach [.Call (.Name g pg2) [.Name nn pn] [] q4] X.env = (false, eval (.Call (.Name g pg2) [.Name nn pn] [] q4) X.env) :: starEach [] X.env)
    (hf : X.fn g = true ∨ X.env.scope.names.lookup g = some .local) :
    XSs X W (.Assign [.Name g pg] (.Subscript (.Name xD pD) (.Name wn pw) q1) q2 :: .Expr (.Call (.Name xd q3) [.Call (.Name g pg2) [.Name nn pn] [] q4] [] q5) q6 :: rest) (xSeq (xNamed ig iw im k1 k2 F1 F2 Fd) f) := by
  have P1 := pe_callL (i := ig) (p := pg2) (pos := q4) (E := fun _ _ _ => False) G1 hr1 hig hgv hk1 hb1 .nil (passes_call tk fun _ _ _ _ h => h.elim) (pa_cons hn pa_nil hst1) hg0 hg1 hst1 rfl
  have P2 := pe_callL (i := ig) (p := pg2) (pos := q4) (E := fun _ _ _ => False) G2 hr2 hig hgv hk2 hb2 .nil (passes_call tk fun _ _ _ _ h => h.elim) (pa_cons hn pa_nil hst1) hg0 hg1 hst1 rfl
  have P : PE X (.Call (.Name g pg2) [.Name nn pn] [] q4) (fun σ H Q => tCallL ig f1 (spD X.K X.mg 1 F1) [] (fun _ _ _ => False) (tCons (tVar im) tNil) σ H Q ∨ tCallL ig f2 (spD X.K X.mg 1 F2) [] (fun _ _ _ => False) (tCons (tVar im) tNil) σ H Q) :=
    ⟨fun pins s σ H Q I h => h.elim (P1.run pins s σ H Q I) (P2.run pins s σ H Q I)⟩
  have PD := pe_callS (p := q3) (pos := q5) Gd hrd hgd hmd hkd hbd (fun σ => passAt tk σ) (pa_cons P pa_nil hst2) hdb hst2 rfl
  have A1 := ps_set hN hig hgl (pe_ix ix_kdict (pe_glob (v := .ref d) (pos := pD) hgD hmD rfl hdD) hw hix) hs1 hf
  refine imp_pss (pss_cons A1 (pss_cons (ps_expr PD hs2) hrest)) fun D σ H ⟨hid, own, a, ρ, hS, ha, h⟩ => ?_
  have h : PostX X.K X.mg W hid own a H D (match xNamed ig iw im k1 k2 F1 F2 Fd ρ with | .nx ρ' => f ρ' | r => r) := h
  have nb : xNamed ig iw im k1 k2 F1 F2 Fd ρ ≠ .bad := fun z => by rw [z] at h; exact h
  obtain ⟨w, n, r, k, ew, en, hF, hl, hgi, hx⟩ := xNamed_cases nb
  rw [hx] at h
  obtain ⟨vw, e1, r1⟩ := hS.val iw _ ew
  cases (show vw = _ from r1)
  obtain ⟨vn, e2, r2⟩ := hS.val im _ en
  cases (show vn = _ from r2)
  have S1 : ∀ v : V, SR X.K hid (unown own ig) H (ρ.set ig none) (σ.set ig (some v)) := fun v => hS.setN
  have a1 : unown own ig 0 = some a := by rw [unown_ne (Ne.symm h0)]; exact ha
  have xt : Ext own (unown own ig) H H := ⟨fun b o e _ => e, fun j b e => .inl ⟨j, (unown_le e).1⟩, fun b e => e⟩
  rw [hS.len] at hgi
  have key : ∀ (F : FD) (v : V) (E0 : XK), F [.str n] = .ok (k, r) → spD X.K X.mg 1 F ([.str (S n)] ++ []) H (fun x H1 => spD X.K X.mg 1 Fd [x] H1 (fun _ H2 => tXS X.K X.mg W f D (σ.set ig (some v)) H2) (WE W (σ.set ig (some v)))) E0 := fun F v E0 eF => by
    refine ⟨ob hid (unown own ig), [.str n], (S1 v).dom, ⟨_, [], rfl, rfl, rfl⟩, rfl, ?_⟩
    rw [eF]
    intro H1 u s1 ru
    have rc : Rp X.K (hd H1 (ob (ob hid (unown own ig)) noOwn)) r u := RT.cl hl ru.rt
    refine ⟨ob (ob hid (unown own ig)) noOwn, [r], fun b z y => (S1 v).dom b (ob_no.mp z) (s1.free y), ⟨_, [], rfl, rc, rfl⟩, rfl, ?_⟩
    cases ed : Fd [r] with
    | bad => rw [ed] at h; exact h.elim
    | exc c => rw [ed] at h; exact fun H2 s2 C hC => h _ _ H2 (xt.trans (Ext.same (s1.trans s2))) C hC
    | ok e => rw [ed] at h; exact fun H2 u2 s2 _ => ⟨hid, unown own ig, a, ρ.set ig none, (S1 v).mono (s1.trans s2), a1, PostX.ext (xt.trans (Ext.same (s1.trans s2))) h⟩
  have look : ∀ fx : Addr, ((k1, f1) :: [(k2, f2)]).lookup w = some fx → PySem.W.nsIn X.K d (S w) = some (some (.ref fx)) := fun fx e => by rw [hD.look w, e]; rfl
  obtain ⟨es, kk, DD, _⟩ := hD.dic
  have e3 : ∀ v : V, (σ.set ig (some v))[ig]? = some (some v) := fun v => List.getElem?_set_self hgi
  have e4 : ∀ v : V, (σ.set ig (some v))[im]? = some (some (.str (S n))) := fun v => by rw [List.getElem?_set_ne hgm]; exact e2
  rcases hF with ⟨c, eF⟩ | ⟨c1, c, eF⟩
  · have l1 := look f1 (by rw [c, List.lookup_cons, beq_self_eq_true])
    exact ⟨_, e1, d, S w, .ref f1, rfl, rfl, ⟨es, kk, .ref f1, DD.at_, DD.lit, l1, rfl⟩, .inl ⟨e3 _, _, e4 _, key F1 (.ref f1) (fun _ _ _ => False) eF⟩⟩
  · have l1 := look f2 (by rw [List.lookup_cons, show (w == k1) = false from beq_false_of_ne c1, List.lookup_cons, c, beq_self_eq_true])
    exact ⟨_, e1, d, S w, .ref f2, rfl, rfl, ⟨es, kk, .ref f2, DD.at_, DD.lit, l1, rfl⟩, .inr ⟨e3 _, _, e4 _, key F2 (.ref f2) (fun _ _ _ => False) eF⟩⟩
end

/-! ### try: .. except C as n: (a suite that hands out one value) -/
def sTryV (i : Nat) (x : Str) (fb : SF) (d0 : D) : SF := fun ρ => match fb ρ with
  | .exc c ρ' => if c = x ∧ i < ρ'.length then .rt (.cl, d0) else .bad
  | r => r
section
variable {X : Cx} {W : WX} {x n : Str} {body suite : List Stmt} {b₀ : Stmt} {np pos pos' : Pos} {fb : SF} {d0 : D} {v0 : V}
theorem ds_tryV (i : Nat) (hv0 : ∀ H, Rp X.K H d0 v0) (hs : X.stack = X.env :: X.outer) (hf : X.env.frame = some X.env.locals) (hN : X.N.Nodup) (hi : X.N[i]? = some n) (hln : X.env.kindOf n = some .local) (c : Cl X.K X.mg x) (hg : Gl X x) (hdb : (x == ("__debug__" : Str)) = false)
    (hex : PySem.W.exmOne X.K (.ref c.C) (.ref c.C) = some true) (tk : Takes X W)
    (hb : ∀ (W' : WX) (pn : List (Addr × Obj)) (xe : Value → Shared → Prop), Takes (X.tr pn xe) W' → PassesOwn (model X.prog X.w) X.A X.env xe → DSs (X.tr pn xe) W' body fb)
    (hsu : ∀ (a : Addr) (oe : Obj) (pn : List (Addr × Obj)), oe.cls = .ref c.C → oe.dict = none → (∃ vs, oe.data = .fields vs) → PSs (X.suite a ((a, oe) :: pn)) (b₀ :: suite) (fun D σ H => σ[i]? = some (some (.ref a)) ∧ ∀ H', Same H H' → D.rt v0 H')) :
    DS X W (.Try body [.ExceptHandler (some (.Name x np)) (some n) (b₀ :: suite) pos'] [] [] pos) (sTryV i x fb d0) := by
  refine imp_ps (ps_try_as (tb := fun W' => tS X.K X.mg W' fb) (ts := fun a cls d D σ H => cls = .ref c.C ∧ d = none ∧ σ[i]? = some (some (.ref a)) ∧ ∀ H', Same H H' → D.rt v0 H') hs hf hN hi hln ⟨hg, hdb, .inl c.g⟩ tk hb
    (fun a oe cls d pn hz hd => ⟨fun pins s σ H D I ⟨e1, e2, q⟩ => by
      subst e1 e2
      exact (hsu a oe pn hz.1 hz.2 hd).run pins s σ H D I q⟩)) fun D σ H ⟨hid, own, ρ, hS, h⟩ => ⟨hid, own, ρ, hS, ?_⟩
  unfold sTryV at h
  cases e : fb ρ with
  | nx ρ' => rw [e] at h; exact h
  | bk ρ' => rw [e] at h; exact h
  | ct ρ' => rw [e] at h; exact h
  | rt e' => rw [e] at h; exact h
  | bad => rw [e] at h; exact h.elim
  | exc c' ρ' =>
    rw [e] at h
    have h : PostS X.K X.mg W hid own H D (if c' = x ∧ i < ρ'.length then .rt (.cl, d0) else .bad) := h
    split at h
    · rename_i hc
      intro own' σ' H' x' S' C hC
      rw [hc.1, c.g] at hC
      have eC : c.C = C := Value.ref.inj (Option.some.inj hC)
      subst eC
      refine ⟨true, hex, fun _ a na => ⟨rfl, rfl, ?_, fun H2 s2 => ?_⟩, fun z => nomatch z⟩
      · rw [List.getElem?_set_self (by rw [← S'.len]; exact hc.2)]
      · exact h own' H2 v0 (x'.trans (Ext.same s2)) (hv0 _)
    · exact h.elim
end
/-- [None, s1][int(not isinstance(e, B1) or isinstance(e, B2))] of a caught exception e of a class below B1, not below B2 -/
theorem suite_isiN {Y : Cx} {n B1 B2 s1 : Str} {i : Nat} {a : Addr} {oe : Obj} {C C1 C2 : Addr} {j0 j1 : Nat} {p1 p2 p3 p4 p5 p6 p7 p8 p9 p10 p11 p12 p13 p14 p15 pe1 pe2 : Pos}
    (T : ExcI Y.K C) (hp : (a, oe) ∈ Y.pn) (hc : oe.cls = .ref C) (hod : oe.dict = none) (hdt : ∃ vs, oe.data = .fields vs) (k1 : PySem.W.kitOne Y.K (.ref C) (.ref C1) = some true) (k2 : PySem.W.kitOne Y.K (.ref C) (.ref C2) = some false)
    (hv1 : PE Y (.Name n pe1) (tVar i)) (hv2 : PE Y (.Name n pe2) (tVar i)) (g1 : Gl Y B1) (m1 : Y.mg B1 = some (.ref C1)) (g2 : Gl Y B2) (m2 : Y.mg B2 = some (.ref C2)) (d1 : (B1 == ("__debug__" : Str)) = false) (d2 : (B2 == ("__debug__" : Str)) = false)
    (gi : Gl Y "isinstance") (mi : Y.mg "isinstance" = none) (gn : Gl Y "int") (mn : Y.mg "int" = none)
    (q1 : starEach [.Name n pe1, .Name B1 p1] Y.env = (false, eval (.Name n pe1) Y.env) :: starEach [.Name B1 p1] Y.env)
    (q2 : starEach [.Name n pe2, .Name B2 p2] Y.env = (false, eval (.Name n pe2) Y.env) :: starEach [.Name B2 p2] Y.env)
    (q5 : starEach [.Constant .none j0 p3, .Constant (.str s1) j1 p4] Y.env = (false, eval (.Constant .none j0 p3) Y.env) :: starEach [.Constant (.str s1) j1 p4] Y.env)
    (q3 : starEach [.BoolOp .Or [.UnaryOp .Not (.Call (.Name "isinstance" p5) [.Name n pe1, .Name B1 p1] [] p6) p9, .Call (.Name "isinstance" p7) [.Name n pe2, .Name B2 p2] [] p8] p10] Y.env =
      (false, eval (.BoolOp .Or [.UnaryOp .Not (.Call (.Name "isinstance" p5) [.Name n pe1, .Name B1 p1] [] p6) p9, .Call (.Name "isinstance" p7) [.Name n pe2, .Name B2 p2] [] p8] p10) Y.env) :: starEach [] Y.env) :
    PSs Y [.Return (some (.Subscript (.List [.Constant .none j0 p3, .Constant (.str s1) j1 p4] p11) (.Call (.Name "int" p12) [.BoolOp .Or [.UnaryOp .Not (.Call (.Name "isinstance" p5) [.Name n pe1, .Name B1 p1] [] p6) p9, .Call (.Name "isinstance" p7) [.Name n pe2, .Name B2 p2] [] p8] p10] [] p13) p14)) p15]
      (fun D σ H => σ[i]? = some (some (.ref a)) ∧ ∀ H', Same H H' → D.rt .non H') := by
  have e1 := pe_callB (cr_isiE (b := true) T hp hc hod hdt k1) gi mi bt_isi (pa_cons hv1 (pa_cons (pe_glob (v := .ref C1) (pos := p1) g1 m1 rfl d1) pa_nil) q1) (by decide) (by decide) q1 rfl (p := p5) (pos := p6)
  have e2 := pe_callB (cr_isiE (b := false) T hp hc hod hdt k2) gi mi bt_isi (pa_cons hv2 (pa_cons (pe_glob (v := .ref C2) (pos := p2) g2 m2 rfl d2) pa_nil) q2) (by decide) (by decide) q2 rfl (p := p7) (pos := p8)
  have e3 := pe_orT (pos := p10) (pe_notT (pos := p9) e1) (pe_one (op := .Or) (pos := p10) e2)
  have e4 := pe_callTy call_int1 gn mn bt_int (pa_cons e3 pa_nil q3) (by decide) (by decide) q3 rfl (p := p12) (pos := p13)
  refine imp_pss (pss_one (ps_ret (pe_ix ix_seq (pe_lst (pa_cons pe_non (pa_cons pe_str pa_nil) q5)) e4 (by intro _ _; rfl)))) fun D σ H ⟨hi, h⟩ => ?_
  refine ⟨by show 2 ≤ sizeLine; rw [sizeLine_eq]; decide, fun p np => ?_⟩
  have hL : SqL Y.K (upd H p (.lst [.non, .str s1])) p [.non, .str s1] := SqL.of upd_same
  have fin : D.rt .non (upd H p (.lst [.non, .str s1])) := h _ (sameUpd np)
  have e5 : atI [V.non, V.str s1] (0 : Int) = some .non := atI_nat' (i := 0) rfl
  exact ⟨_, hi, rfl, true, rfl, false, rfl, iteF ⟨_, hi, rfl, .inr ⟨false, rfl, .inl ⟨p, _, 0, _, rfl, rfl, hL, e5, fin⟩⟩⟩⟩
end PL
set_option Elab.async false
set_option linter.all false
set_option maxRecDepth 100000
set_option maxHeartbeats 4000000
/-! PL16: a list comprehension whose first element's call raises. -/
namespace PL
open PySem PySem.Spec L2 PyProof.Rows

theorem inv_xe {Y : Cx} {pins : List (Addr × Obj)} {σ : L2.St} {H : Hp} {s : Shared} (e : Value → Shared → Prop) (I : Inv Y pins σ H s) : Inv { Y with xe := e } pins σ H s :=
  ⟨⟨I.ok.mod, I.ok.kind, I.ok.glob, I.ok.blt, I.ok.above, I.ok.inj, I.ok.has, I.ok.cab, I.ok.hd, I.ok.frames, I.ok.stk, I.ok.exf, I.ok.bs, I.ok.bsz, I.ok.noex, I.ok.exfs, I.ok.funs, I.ok.frf⟩,
    I.os, I.bare, I.base, I.loc, I.cell, I.free, I.freeC, I.pin, I.hok, I.len⟩
theorem funFrames_less {h B B' : Heap} (hb : ∀ b, B.get? b = none → B'.get? b = none) : ∀ {l : List Env}, h.FunFrames B l → h.FunFrames B' l
  | [], _ => trivial
  | _ :: _, ⟨hk, ⟨L', o, hf, hn, ho, hd⟩, hr⟩ => ⟨hk, ⟨L', o, hf, hb _ hn, ho, hd⟩, funFrames_less hb hr⟩
/-- the state below an exception that came out of a call -/
theorem cx_inv {Y : Cx} {pins : List (Addr × Obj)} {σ : L2.St} {H H' : Hp} {s s' : Shared} {B : Heap} (I : Inv Y pins σ H s) (st : B.StaysIn s'.heap) (hok : HOk Y.prog Y.w H' B) (ub : UB (frs Y.stack) H H' s.heap B s'.heap) (ag : AllBare s'.gens) :
    ∃ G : Heap, Inv Y pins σ H' { s with heap := G, gens := s'.gens, drawn := s'.drawn, toks := s'.toks } ∧ (∀ b o, G.get? b = some o → b ∉ frs Y.stack → B.get? b = some o) ∧ ∀ b o, G.get? b = some o → s'.heap.get? b = some o := by
  obtain ⟨G, g1, g2⟩ := restrict s'.heap fun b => (B.get? b).isSome || decide (b ∈ frs Y.stack)
  have inB : ∀ b o, B.get? b = some o → G.get? b = some o := fun b o e => (g1 b (by rw [e]; rfl)).trans (st b o e)
  have inF : ∀ b, b ∈ frs Y.stack → G.get? b = s'.heap.get? b := fun b hb => g1 b (by rw [decide_eq_true hb, Bool.or_true])
  have out : ∀ b o, G.get? b = some o → s'.heap.get? b = some o ∧ ((B.get? b).isSome = true ∨ b ∈ frs Y.stack) := fun b o e => by
    by_cases q : ((B.get? b).isSome || decide (b ∈ frs Y.stack)) = true
    · exact ⟨(g1 b q).symm.trans e, by rwa [Bool.or_eq_true, decide_eq_true_eq] at q⟩
    · rw [g2 b (by simpa using q)] at e; cases e
  refine ⟨G, I.call (ch := []) ⟨fun b o e n hb _ => inB b o (ub.keep b o e n hb), fun b o e n hb _ => ?_, fun b o e n _ => ub.free b o e n, fun b o e _ => ?_, ub.tups, ub.frzs, ub.tbls⟩ (hok.kept inB) ag (fun _ z => nomatch z), fun b o e hb => ?_, fun b o e => (out b o e).1⟩
  · obtain ⟨sl, q⟩ := ub.slot b o e hb
    exact ⟨sl, (inF b hb).trans q⟩
  · by_cases hb : b ∈ frs Y.stack
    · obtain ⟨sl, q⟩ := ub.slot b o e hb
      exact ⟨_, (inF b hb).trans q⟩
    · obtain ⟨o', q⟩ := ub.there b o e hb
      exact ⟨o', inB b o' q⟩
  · obtain ⟨e', w⟩ := out b o e
    rcases w with w | w
    · obtain ⟨o', q⟩ := Option.isSome_iff_exists.mp w
      have := (st b o' q).symm.trans e'
      cases this
      exact q
    · exact absurd w hb
/-- what the block's element owes where a call in it raises -/
abbrev xeB (X : Cx) (ce : Env) : Value → Shared → Prop := fun e s' => notedBy (model X.prog X.w) X.A ce (CompFails (model X.prog X.w) X.A X.xe ce) e s'
theorem blk_pass {X : Cx} {W : WX} {pins : List (Addr × Obj)} {σ : L2.St} {H3 : Hp} {s3 : Shared} {scope : Scope} {ce : Env} {fp : List Addr} (hs : X.stack = X.env :: X.outer) (hf : X.env.frame = some X.env.locals) (hcf : ce.frame = X.env.frame)
    (tk : Takes X W) (I3 : Inv X pins σ H3 s3) (hfp : ∀ b ∈ fp, FpOk X pins H3 b) (hC : ce.locals = s3.heap.objs.size) (σb : L2.St) : PassesAt (L2.CX X.prog X.w) { X.blk s3 H3 scope ce fp with xe := xeB X ce } σb (fun cls d H' => W cls d σ H') := by
  intro pinsb H s e s' Ib c
  obtain ⟨a, B, H', cls, d, rfl, fl, hok, ub, na, os, ag, hE⟩ := c
  obtain ⟨G, I6, gb, gh⟩ := cx_inv Ib fl.1 hok ub ag
  have hfr : X.A.frames = some (X.env :: X.outer) := by rw [← hs]; exact I3.ok.frames
  -- the block's names
  obtain ⟨m, hn, _⟩ := Ib.loc
  have hn : s.heap.Ns ce.locals m := hn
  have fC : H ce.locals = none := Ib.free
  have I7 : Inv X pins σ H' { s with heap := G, gens := s'.gens, drawn := s'.drawn, toks := s'.toks } := I3.call' (ch := fp) I6.os I6.base I6.hok I6.bare fun b hb => ⟨(hfp b hb).2.2.2.1, (hfp b hb).2.1, (hfp b hb).2.2.2.2.1, (hfp b hb).2.2.2.2.2⟩
  have fC' : H' ce.locals = none := I6.free
  have okC : FpOk X pins H' ce.locals := I3.fpOk (Nat.le_of_eq hC.symm) fC'
  have nBC : ce.locals ∉ frs X.stack := fun hb => by
    rw [hs] at hb
    rcases List.mem_filterMap.mp hb with ⟨en, h1, h2⟩
    rcases List.mem_cons.mp h1 with z | z
    · subst z
      rw [hf] at h2
      exact okC.2.1 (Option.some.inj h2).symm
    · exact okC.2.2.1 (List.mem_filterMap.mpr ⟨en, z, h2⟩)
  show wpAny _ _ (noteFrame (.ref a) ce) _ _ s'
  rw [noteFrame_env _ hcf]
  have fl' : HandSPX.FlyingZ B (X.env :: X.outer) a (Zc cls d) s'.heap := by rw [← hs]; exact fl
  refine HandSPX.looks_onZ Zc.steady hfr hf fl' fun h1 hh up => ?_
  obtain ⟨b1, b0, f1, t1⟩ := hh
  have nsB : B.Ns ce.locals m := by
    obtain ⟨o, es, ep, ho, r⟩ := hn
    exact ⟨o, es, ep, ub.keep _ _ ho fC nBC, r⟩
  have n1 : h1.Ns ce.locals m := nsB.keeps b1
  refine ⟨m, n1, fun h2 m2 hn2 hs2 => ?_⟩
  obtain ⟨oe, vs, T, oT, ts, he, hz, hd, hv1, hnT, hTe, hT, hdT, hv3⟩ := t1
  have notC : ∀ {b : Addr} {o : Obj} {vs : Array Value}, h1.get? b = some o → o.data = .fields vs → b ≠ ce.locals := fun {b o vs} e q z => by
    obtain ⟨oL, es, ep, ho, hdL, _⟩ := n1
    rw [z, ho] at e; cases e
    rw [hdL] at q; cases q
  have t2 : HandSPX.TracedZ h2 (PySem.W.hideAll B [ce.locals]) a (Zc cls d) (rawInt X.env.locals) := by
    refine ⟨oe, vs, T, oT, ts, (hs2.2 a (notC he hd)).trans he, hz, hd, hv1, ?_, hTe, (hs2.2 T (notC hT hdT)).trans hT, hdT, hv3⟩
    cases q : (PySem.W.hideAll B [ce.locals]).get? T with
    | none => rfl
    | some o => rw [PySem.W.of_hideAll _ q] at hnT; cases hnT
  have b2 : (PySem.W.hideAll B [ce.locals]).StaysIn h2 := fun b o e => by
    have nb : b ≠ ce.locals := fun z => by rw [z, PySem.W.hideAll_none _ List.mem_cons_self] at e; cases e
    exact (hs2.2 b nb).trans (b1 b o (PySem.W.of_hideAll _ e))
  have f2 : h2.FunFrames (PySem.W.hideAll B [ce.locals]) (X.env :: X.outer) := funFrames_less (fun b e => by
    cases q : (PySem.W.hideAll B [ce.locals]).get? b with
    | none => rfl
    | some o => rw [PySem.W.of_hideAll _ q] at e; cases e) (Heap.FunFrames.sameBut hs2 hn2 f1)
  obtain ⟨oe', vs', T', oT', ts', he', hz', hd', hv1', r'⟩ := id t2
  unfold PySem.passOn
  refine wpAny_bind (wpAny_field he' hd' hv1' ?_)
  rw [if_neg (show ¬ ((Value.ref T' == Value.none) = true) from by simp), hcf, hf]
  refine wpAny_bind (HandSPX.setFlight_anyZ (fr := some X.env.locals) b2 f2 t2 fun h3 b3 f3 t3 up3 => wpAny_throw ?_)
  refine tk _ _ ⟨a, PySem.W.hideAll B [ce.locals], { s with heap := PySem.W.hideAll G [ce.locals], gens := s'.gens, drawn := s'.drawn, toks := s'.toks }, pins, σ, H', cls, d, rfl, ?_, fun b o e hb => ?_, fun b o e q => ?_, .inr (.inr ⟨b3, ?_, by rw [hs]; exact f3, t3⟩), na, os, ag, hE⟩
  · obtain ⟨q0, q1, q2, q3, q4, q5⟩ := okC
    exact I7.turned (t' := s'.toks) (fun b o nb e => PySem.W.hideAll_get _ e (by simpa using nb)) q0 q1 q3 q4 q5
  · have nb : b ≠ ce.locals := fun z => by rw [z, PySem.W.hideAll_none _ List.mem_cons_self] at e; cases e
    exact PySem.W.hideAll_get _ (gb b o (PySem.W.of_hideAll _ e) hb) (by simpa using nb)
  · have nb : b ≠ ce.locals := fun z => by rw [z, PySem.W.hideAll_none _ List.mem_cons_self] at e; cases e
    obtain ⟨sl, w1⟩ := up b o (gh b o (PySem.W.of_hideAll _ e)) q
    exact up3 b { o with slots := sl } ((hs2.2 b nb).trans w1) q
  · cases q : (PySem.W.hideAll B [ce.locals]).get? a with
    | none => rfl
    | some o => rw [PySem.W.of_hideAll _ q] at b0; cases b0

/-- [f(e) for target in iter], where the first element's call raises -/
def tLcR (wi : TI) (g : TG) (ta : TA) (sp : Sp) (W : WX) (vs : List Nat) : TE := fun σ H _ => wi σ H fun J H1 => ∀ D, H1 D = none → J.go 0 (upd H1 D (.lst [])) ∧ ∀ x H', J.yld 0 (upd H1 D (.lst [])) x H' → g x (wipe σ vs) H' fun σ2 H2 => ta σ2 H2 fun us H3 => sp us H3 (fun _ _ => False) fun cls d H4 => W cls d σ H4
theorem pe_lcR {X : Cx} {W : WX} {tg iter e1 : Expr} {scope : Scope} {own : List (Str × Nat)} {x : Str} {px pc pos : Pos} {k : Nat} {f : Addr} {fd : FuncData} {ps : List Str} {sp : Sp} {wi : TI} {g : TG} {ta : TA} (hc : X.calm = true) (hN : X.N.Nodup) (hs : X.stack = X.env :: X.outer) (hf : X.env.frame = some X.env.locals)
    (tk : Takes X W) (hi : PI X tg iter wi) (ok : BlkOk X.N X.env.scope scope own)
    (hg : ∀ (s : Shared) (H : Hp) (C : Addr) (cl : List (Str × Addr)) (fp : List Addr) (xe : Value → Shared → Prop), PG { X.blk s H scope (compEnvC scope cl C X.env) fp with xe := xe } tg g)
    (ha : ∀ (s : Shared) (H : Hp) (C : Addr) (cl : List (Str × Addr)) (fp : List Addr) (xe : Value → Shared → Prop), PA { X.blk s H scope (compEnvC scope cl C X.env) fp with xe := xe } [e1] ta)
    (G : FnOk X.prog X.w X.K X.mg X.base (L2.CX X.prog X.w) k f fd ps sp) (hr : Room k X.A) (hgl : ∀ (s : Shared) (H : Hp) (C : Addr) (cl : List (Str × Addr)) (fp : List Addr) (xe : Value → Shared → Prop), Gl { X.blk s H scope (compEnvC scope cl C X.env) fp with xe := xe } x)
    (hm : X.mg x = some (.ref f)) (hk : PySem.W.keepIn X.K (.ref f) = true) (hb : Binds X.K fd ps []) (hdb : (x == ("__debug__" : Str)) = false := by decide) (hst : ∀ ce, starEach [e1] ce = (false, eval e1 ce) :: starEach [] ce := by intro _; rfl)
    (hfs : ∀ x, foldedSetIterable iter X.env x = pure x := by intro _; rfl) :
    PE X (.ListComp (.Call (.Name x px) [e1] [] pc) [⟨tg, iter, [], 0⟩] scope pos) (tLcR wi g ta sp W (own.map (·.2))) := by
  refine ⟨fun pins s σ H Q I h => ?_⟩
  rw [eval_ListComp]
  have free : ∀ y ∈ scope.names, y.2 = .free → ∃ c, X.env.cells.lookup y.1 = some c := fun y hy e => (ok.free y hy e).elim (fun k => I.ok.has _ (.inl k)) fun k => I.ok.has _ (.inr k)
  refine comprehension_at (use := none) rfl hfs (closure_ok free) ok.kind (fun y hy e => (ok.uniq y hy).trans (congrArg some e)) (thn (hi.run pins s σ H _ I h) fun xv s1 hx => thn hx fun itv s2 h2 => ?_)
  obtain ⟨it, fp, tn, J, H2, e, I2, T, st2, f2, q⟩ := h2
  subst e
  refine wpAny_newObj_type (newEnv_comp ?_) (by show 0 ≤ sizeLine; decide)
  generalize eD : s2.heap.objs.size = D
  have nD : H2 D = none := I2.hok.fresh (Nat.le_of_eq eD)
  obtain ⟨go, step⟩ := q D nD
  generalize e3 : ({ s2 with heap := s2.heap.push { cls := .type "list", data := .seq ([] : List Value).toArray } } : Shared) = s3
  have I3 : Inv X pins σ (upd H2 D (.lst [])) s3 := by
    rw [← e3, ← eD]
    exact I2.laid (t' := s2.toks) (fun b o e => Heap.get?_push_of_some _ e) (Nat.le_refl _) ⟨Nat.zero_le _, [], 0, .nil, Heap.get?_push_size _ rfl⟩
  have h3 : s3.heap = s2.heap.push { cls := .type "list", data := .seq ([] : List Value).toArray } := by rw [← e3]
  have f3 : ∀ b ∈ fp, FpOk X pins (upd H2 D (.lst [])) b ∧ b < s3.heap.objs.size := fun b hb => by
    obtain ⟨o, e, _⟩ := T.obj _ _ st2 b hb
    have lt := Heap.lt_size e
    exact ⟨⟨(upd_ne (by rw [← eD]; exact Nat.ne_of_lt lt)).trans (f2 b hb).1, (f2 b hb).2⟩, by rw [h3, Heap.size_push]; exact Nat.lt_succ_of_lt lt⟩
  have st3 : tn 0 s3.heap := T.keep _ _ _ st2 fun b _ o e => by rw [h3]; exact Heap.get?_push_of_some _ e
  have I4 := block_start I3 ok hN f3
  generalize ecl : cellsFrom (s3.heap.objs.size + 1) scope.names (cloFrom X.env.cells scope.names []) = cl at I4
  have Pg := hg s3 (upd H2 D (.lst [])) s3.heap.objs.size cl fp
  have Pa := ha s3 (upd H2 D (.lst [])) s3.heap.objs.size cl fp
  have Gx := hgl s3 (upd H2 D (.lst [])) s3.heap.objs.size cl fp
  have pas := blk_pass (ce := compEnvC scope cl s3.heap.objs.size X.env) (scope := scope) hs hf rfl tk I3 (fun b hb => (f3 b hb).1) rfl
  show codeAny _ _ (.compStart _ 0 (.ref it) (.ref D) (compEnvC scope cl s3.heap.objs.size X.env)) (compEnds (model X.prog X.w) X.A X.xe none (EP X pins σ Q) (.ref D) (compEnvC scope cl s3.heap.objs.size X.env)) { s3 with heap := pushCells (s3.heap.push { cls := .type "dict", data := .dict #[] }) scope.names }
  have nfp : ∀ b ∈ fp, (upd H2 D (.lst [])) b = none := fun b hb => (f3 b hb).1.1
  generalize eH : upd H2 D (.lst []) = H3 at I3 I4 go step nfp f3 Pg Pa Gx pas
  generalize ece : compEnvC scope cl s3.heap.objs.size X.env = ce at I4 Pg Pa Gx pas ⊢
  generalize e4 : ({ s3 with heap := pushCells (s3.heap.push { cls := .type "dict", data := .dict #[] }) scope.names } : Shared) = s4 at I4 ⊢
  have st4 : tn 0 s4.heap := T.keep _ _ _ st3 fun b _ o e => by rw [← e4]; exact pushCells_keeps _ _ _ _ (Heap.get?_push_of_some _ e)
  have I4 := inv_xe (xeB X ce) I4
  have stat : ∀ {σ' : L2.St} {H' : Hp} {s' : Shared}, Inv { X.blk s3 H3 scope ce fp with xe := xeB X ce } [] σ' H' s' → (∀ b ∈ fp, H' b = none) → ∀ b ∈ fp, FpOk { X.blk s3 H3 scope ce fp with xe := xeB X ce } [] H' b := fun {σ' H' s'} I' hn b hb =>
    ⟨hn b hb, (I'.ok.exf b hb).1, I'.ok.exfs b hb, .inl hb, fun x c e => (I'.ok.exf b hb).2 x c e, fun p hp => absurd (show p ∈ ([] : List (Addr × Obj)) ++ [] from hp) (by simp)⟩
  have Pc := pe_callS (X := { X.blk s3 H3 scope ce fp with xe := xeB X ce }) (p := px) (pos := pc) G hr (Gx (xeB X ce)) hm hk hb pas (Pa (xeB X ce)) hdb (hst ce) rfl
  have loop : codeAny (model X.prog X.w) X.A (.compLoop (.ListComp (.Call (.Name x px) [e1] [] pc) [⟨tg, iter, [], 0⟩] scope pos) 0 (.ref it) (.ref D) ce) (compEnds (model X.prog X.w) X.A X.xe none (EP X pins σ Q) (.ref D) ce) s4 := by
    refine compLoop_any (fun n s' => s' = s4) ?_ 0 rfl
    intro n s5 e5
    subst e5
    have ti := T.item { X.blk s3 H3 scope ce fp with xe := xeB X ce } rfl rfl rfl hc 0 [] s5 _ H3 (xeB X ce) I4 (stat I4 nfp) st4 go
    refine thn ti fun r s6 ⟨u, hr', h6⟩ => ?_
    subst hr'
    refine thn h6 fun _ s7 ⟨y, H7, I7, r7, y7, st7, n7⟩ => ?_
    refine thn ((Pg (xeB X ce)).run _ s7 _ H7 y u _ I7 r7 (step y H7 y7)) fun _ s8 ⟨σ8, H8, I8, q8⟩ => ?_
    refine wpAny_tests_nil ?_
    rw [if_pos rfl]
    exact thn (Pc.run _ s8 σ8 H8 (fun _ _ => False) I8 q8) fun z s10 ⟨_, _, _, _, w⟩ => w.elim
  exact codeAny_compStart_list loop (T.self X.A 0 _ _ _ st4 loop)
end PL
set_option Elab.async false
set_option linter.all false
set_option maxRecDepth 100000
set_option maxHeartbeats 4000000
/-! PL17: the raising comprehension over pure data. -/
namespace PL
open PySem PySem.Spec L2

def lcXF (f : IF) (vs : List Nat) (g : GF) (F : FD) (fa : AF) : EF := fun ρ => match lcF f vs g tYesF (eCall F 1 fa) ρ with
  | .ok e => .ok e
  | _ => match f ρ with
    | .ok (_, d :: _) => (match g d (wipeR ρ vs) with
      | some ρ1 => (match fa ρ1 with
        | .ok es => if es.length = 1 ∧ es.all okE = true then (match F (es.map (·.2)) with
          | .exc c => .exc c
          | _ => .bad) else .bad
        | _ => .bad)
      | none => .bad)
    | _ => .bad
theorem or_pe {X : Cx} {e : Expr} {t t' : TE} (h : PE X e t) (h' : PE X e t') : PE X e (fun σ H Q => t σ H Q ∨ t' σ H Q) := ⟨fun pins s σ H Q I q => q.elim (h.run pins s σ H Q I) (h'.run pins s σ H Q I)⟩
theorem lcXF_cases {f : IF} {vs : List Nat} {g : GF} {F : FD} {fa : AF} {ρ : Ro} (h : lcXF f vs g F fa ρ ≠ .bad) : (∃ e, lcF f vs g tYesF (eCall F 1 fa) ρ = .ok e ∧ lcXF f vs g F fa ρ = .ok e) ∨
    ∃ p d ds ρ1 es c, f ρ = .ok (p, d :: ds) ∧ g d (wipeR ρ vs) = some ρ1 ∧ fa ρ1 = .ok es ∧ es.length = 1 ∧ es.all okE = true ∧ F (es.map (·.2)) = .exc c ∧ lcXF f vs g F fa ρ = .exc c := by
  unfold lcXF at h ⊢
  cases e0 : lcF f vs g tYesF (eCall F 1 fa) ρ with
  | ok e => exact .inl ⟨e, rfl, rfl⟩
  | _ =>
    all_goals
      rw [e0] at h
      refine .inr ?_
      dsimp only at h ⊢
      cases e1 : f ρ with
      | exc c => rw [e1] at h; exact absurd rfl h
      | bad => rw [e1] at h; exact absurd rfl h
      | ok p =>
        obtain ⟨p, ds⟩ := p
        cases ds with
        | nil => rw [e1] at h; exact absurd rfl h
        | cons d ds =>
          rw [e1] at h
          dsimp only at h ⊢
          cases e2 : g d (wipeR ρ vs) with
          | none => rw [e2] at h; exact absurd rfl h
          | some ρ1 =>
            rw [e2] at h
            dsimp only at h ⊢
            cases e3 : fa ρ1 with
            | exc c => rw [e3] at h; exact absurd rfl h
            | bad => rw [e3] at h; exact absurd rfl h
            | ok es =>
              rw [e3] at h
              dsimp only at h ⊢
              by_cases c : es.length = 1 ∧ es.all okE = true
              · rw [if_pos c] at h ⊢
                cases e4 : F (es.map (·.2)) with
                | ok r => rw [e4] at h; exact absurd rfl h
                | bad => rw [e4] at h; exact absurd rfl h
                | exc c' => exact ⟨p, d, ds, ρ1, es, c', rfl, e2, e3, c.1, c.2, e4, rfl⟩
              · rw [if_neg c] at h; exact absurd rfl h
section
variable {X : Cx} {W : WX}
theorem de_lcX {tg iter e1 : Expr} {scope : Scope} {own : List (Str × Nat)} {x : Str} {px pc pos : Pos} {k : Nat} {fn : Addr} {fd : FuncData} {ps : List Str} {F : FD} {ss : List Nat} {f : IF} {gf : GF} {fa : AF} (hc : X.calm = true) (hN : X.N.Nodup) (hs : X.stack = X.env :: X.outer) (hf : X.env.frame = some X.env.locals)
    (tk : Takes X W) (ok : BlkOk X.N X.env.scope scope own) (hss : ∀ i ∈ ss, i ∈ own.map (·.2)) (hi : DI X W tg iter f)
    (hg : ∀ (s : Shared) (H : Hp) (C : Addr) (cl : List (Str × Addr)) (fp : List Addr) (xe : Value → Shared → Prop), DG { X.blk s H scope (compEnvC scope cl C X.env) fp with xe := xe } tg ss gf)
    (ha : ∀ (s : Shared) (H : Hp) (C : Addr) (cl : List (Str × Addr)) (fp : List Addr) (xe : Value → Shared → Prop), DA { X.blk s H scope (compEnvC scope cl C X.env) fp with xe := xe } W0 [e1] fa)
    (he : ∀ (s : Shared) (H : Hp) (C : Addr) (cl : List (Str × Addr)) (fp : List Addr), DE (X.blk s H scope (compEnvC scope cl C X.env) fp) W0 (.Call (.Name x px) [e1] [] pc) (eCall F 1 fa))
    (G : FnOk X.prog X.w X.K X.mg X.base (L2.CX X.prog X.w) k fn fd ps (spD X.K X.mg 1 F)) (hr : Room k X.A) (hgl : ∀ (s : Shared) (H : Hp) (C : Addr) (cl : List (Str × Addr)) (fp : List Addr) (xe : Value → Shared → Prop), Gl { X.blk s H scope (compEnvC scope cl C X.env) fp with xe := xe } x)
    (hm : X.mg x = some (.ref fn)) (hk : PySem.W.keepIn X.K (.ref fn) = true) (hb : Binds X.K fd ps []) (hdb : (x == ("__debug__" : Str)) = false := by decide) (hst : ∀ ce, starEach [e1] ce = (false, eval e1 ce) :: starEach [] ce := by intro _; rfl)
    (hfs : ∀ x, foldedSetIterable iter X.env x = pure x := by intro _; rfl) :
    DE X W (.ListComp (.Call (.Name x px) [e1] [] pc) [⟨tg, iter, [], 0⟩] scope pos) (lcXF f (own.map (·.2)) gf F fa) := by
  have P1 := de_lc (pos := pos) (tf := tYesF) hc hN ok hss hi (fun s H C cl fp => hg s H C cl fp (fun _ _ => False)) (fun _ _ _ _ _ => dts_nil) he hfs
  have P2 := pe_lcR (W := W) (pos := pos) (px := px) (pc := pc) (ta := tA X.K X.mg W0 fa) (g := tG X.K ss gf) hc hN hs hf tk hi ok hg ha G hr hgl hm hk hb hdb hst hfs
  refine imp_pe (or_pe P1 P2) fun σ H Q ⟨hid, own', ρ, hS, h⟩ => ?_
  have nb : lcXF f (own.map (·.2)) gf F fa ρ ≠ .bad := fun z => by rw [z] at h; exact h
  rcases lcXF_cases nb with ⟨e, q1, q2⟩ | ⟨p, d, ds, ρ1, es, c, q1, q2, q3, q4, q5, q6, q7⟩
  · rw [q2, ← q1] at h
    exact .inl ⟨hid, own', ρ, hS, h⟩
  · rw [q7] at h
    refine .inr ⟨hid, own', ρ, hS, ?_⟩
    rw [q1]
    intro H1 J s1 it D0 nD
    have S1 := hS.mono s1
    have s2 : Same H1 (upd H1 D0 (.lst [])) := sameUpd nD
    have dom : ∀ b, (ob hid own' b ∨ b = D0) → (upd H1 D0 (.lst [])) b ≠ none := fun b z => z.elim (fun z q => S1.dom b z (s2.free q)) fun z q => by rw [z, upd_same] at q; cases q
    have sl : Same (lvl hid own' H1 p) (upd H1 D0 (.lst [])) := fun b o e => s2 b o (by cases p <;> exact hd_le b o e)
    have sc : Same (hd H1 (ob hid own')) (hd (upd H1 D0 (.lst [])) fun b => ob hid own' b ∨ b = D0) := hd_mono fun b o e n => ⟨s2 b o e, fun z => z.elim n fun z => by rw [z, nD] at e; cases e⟩
    obtain ⟨_, go⟩ := it 0 (upd H1 D0 (.lst [])) (fun b => ob hid own' b ∨ b = D0) sl sc dom
    obtain ⟨go1, go2⟩ := go d rfl
    refine ⟨go1, fun x H3 y3 => ?_⟩
    obtain ⟨s3, rx⟩ := go2 x H3 y3
    have S3 : SR X.K (hidB hid own' (own.map (·.2)) D0) (outOf own' (own.map (·.2))) H3 (wipeR ρ (own.map (·.2))) (wipe σ (own.map (·.2))) := S1.blk nD (s2.trans s3) (by rw [s3 _ _ upd_same]; exact fun z => nomatch z) _
    refine ⟨_, _, _, d, S3, Rp.mono (hd_mono fun b o e n => ⟨e, fun z => n (ob_blk.mp z)⟩) _ _ rx, ?_⟩
    rw [q2]
    intro own1 σ1 S4 le1 ge1 k1 l1
    refine ⟨_, own1, ρ1, S4, ?_⟩
    rw [q3]
    intro H4 us s4 d4 r4
    refine ⟨_, es.map (·.2), d4, r4.clean q5, by rw [List.length_map]; exact q4, ?_⟩
    rw [q6]
    exact fun H5 s5 C hC => h H5 ((((s1.trans s2).trans s3).trans s4).trans s5) C hC
end
end PL
set_option Elab.async false
set_option linter.all false
set_option maxRecDepth 100000
set_option maxHeartbeats 4000000
/-! PL18: if, with one token out. -/
namespace PL
open PySem PySem.Spec L2
theorem dst_if {X : Cx} {W : WX} {c : Expr} {a b : List Stmt} {t : TF} {f g : SF} {pos : Pos} (hc : DT X W c t) (ha : DSsT X W a f) (hb : DSsT X W b g) : DST X W (.If c a b pos) (sIf t f g) :=
  imp_pst (CwR.pst_if hc ha hb) fun D σ H ⟨hid, own, ρ, hS, h⟩ => ⟨hid, own, ρ, hS, by
    unfold sIf at h
    cases e : t ρ with
    | ok b =>
      rw [e] at h
      intro H1 s1
      cases b with
      | true => rw [if_pos rfl]; exact ⟨hid, own, ρ, hS.mono s1, PostS.ext (Ext.same s1) h⟩
      | false => rw [if_neg Bool.false_ne_true]; exact ⟨hid, own, ρ, hS.mono s1, PostS.ext (Ext.same s1) h⟩
    | exc c => rw [e] at h; exact fun H1 s => h own σ H1 (Ext.same s) (hS.mono s)
    | bad => rw [e] at h; exact h.elim⟩
end PL
set_option Elab.async false
set_option linter.all false
set_option maxRecDepth 100000
set_option maxHeartbeats 4000000
namespace PL
open PySem PySem.Spec L2
def topS (i : Nat) : Stmt := PySem.Challenge.pw_asifanew_k81_questions_as_texts.main.body.getD i (.Pass ⟨0, 0, 0, 0⟩)
def clsS (i j : Nat) : Stmt := match topS i with | .ClassDef _ _ _ body _ _ _ _ _ _ _ => body.getD j (.Pass ⟨0, 0, 0, 0⟩) | s => s
abbrev st_are_signs : Stmt := topS 10
abbrev N_are_signs : List Str := ["string", "signs", "sign"]
theorem sc_are_signs : FnScope N_are_signs ["string", "signs"] (defScope st_are_signs) := ⟨rfl, rfl, rfl, by decide +kernel, rfl, by decide +kernel, by decide +kernel⟩
abbrev st_is_path : Stmt := topS 11
abbrev N_is_path : List Str := ["string", "part"]
theorem sc_is_path : FnScope N_is_path ["string"] (defScope st_is_path) := ⟨rfl, rfl, rfl, by decide +kernel, rfl, by decide +kernel, by decide +kernel⟩
abbrev st_is_glob_part : Stmt := topS 12
abbrev N_is_glob_part : List Str := ["part"]
theorem sc_is_glob_part : FnScope N_is_glob_part ["part"] (defScope st_is_glob_part) := ⟨rfl, rfl, rfl, by decide +kernel, rfl, by decide +kernel, by decide +kernel⟩
abbrev st_is_glob : Stmt := topS 13
abbrev N_is_glob : List Str := ["string", "part"]
theorem sc_is_glob : FnScope N_is_glob ["string"] (defScope st_is_glob) := ⟨rfl, rfl, rfl, by decide +kernel, rfl, by decide +kernel, by decide +kernel⟩
abbrev st_demand : Stmt := topS 25
abbrev N_demand : List Str := ["good"]
theorem sc_demand : FnScope N_demand ["good"] (defScope st_demand) := ⟨rfl, rfl, rfl, by decide +kernel, rfl, by decide +kernel, by decide +kernel⟩
abbrev st_Asking___init__ : Stmt := clsS 26 0
abbrev N_Asking___init__ : List Str := ["self", "string"]
theorem sc_Asking___init__ : FnScope N_Asking___init__ ["self", "string"] (defScope st_Asking___init__) := ⟨rfl, rfl, rfl, by decide +kernel, rfl, by decide +kernel, by decide +kernel⟩
abbrev st_Asking_token : Stmt := clsS 26 1
abbrev N_Asking_token : List Str := ["self", "start"]
theorem sc_Asking_token : FnScope N_Asking_token ["self"] (defScope st_Asking_token) := ⟨rfl, rfl, rfl, by decide +kernel, rfl, by decide +kernel, by decide +kernel⟩
abbrev st_Asking_meet : Stmt := clsS 26 2
abbrev N_Asking_meet : List Str := ["self", "sign"]
theorem sc_Asking_meet : FnScope N_Asking_meet ["self", "sign"] (defScope st_Asking_meet) := ⟨rfl, rfl, rfl, by decide +kernel, rfl, by decide +kernel, by decide +kernel⟩
abbrev st_Asking_whole_set : Stmt := clsS 26 3
abbrev N_Asking_whole_set : List Str := ["self", "word", "named", "good"]
theorem sc_Asking_whole_set : FnScope N_Asking_whole_set ["self"] (defScope st_Asking_whole_set) := ⟨rfl, rfl, rfl, by decide +kernel, rfl, by decide +kernel, by decide +kernel⟩
abbrev st_Asking_two_sets : Stmt := clsS 26 4
abbrev N_Asking_two_sets : List Str := ["self", "first", "word", "second"]
theorem sc_Asking_two_sets : FnScope N_Asking_two_sets ["self"] (defScope st_Asking_two_sets) := ⟨rfl, rfl, rfl, by decide +kernel, rfl, by decide +kernel, by decide +kernel⟩
abbrev st_read_set : Stmt := topS 27
abbrev N_read_set : List Str := ["string", "asking", "found"]
theorem sc_read_set : FnScope N_read_set ["string"] (defScope st_read_set) := ⟨rfl, rfl, rfl, by decide +kernel, rfl, by decide +kernel, by decide +kernel⟩
abbrev st_number_in : Stmt := topS 28
abbrev N_number_in : List Str := ["word", "sign"]
theorem sc_number_in : FnScope N_number_in ["word"] (defScope st_number_in) := ⟨rfl, rfl, rfl, by decide +kernel, rfl, by decide +kernel, by decide +kernel⟩
abbrev st_read_question : Stmt := topS 29
abbrev N_read_question : List Str := ["string", "word", "_", "rest", "parts", "part"]
theorem sc_read_question : FnScope N_read_question ["string"] (defScope st_read_question) := ⟨rfl, rfl, rfl, by decide +kernel, rfl, by decide +kernel, by decide +kernel⟩
abbrev st_write_set : Stmt := topS 30
abbrev N_write_set : List Str := ["question"]
theorem sc_write_set : FnScope N_write_set ["question"] (defScope st_write_set) := ⟨rfl, rfl, rfl, by decide +kernel, rfl, by decide +kernel, by decide +kernel⟩
abbrev st_write_question : Stmt := topS 31
abbrev N_write_question : List Str := ["question", "part"]
theorem sc_write_question : FnScope N_write_question ["question"] (defScope st_write_question) := ⟨rfl, rfl, rfl, by decide +kernel, rfl, by decide +kernel, by decide +kernel⟩
abbrev st__law_cell : Stmt := topS 33
abbrev N__law_cell : List Str := ["script", "k"]
theorem sc__law_cell : FnScope N__law_cell ["script", "k"] (defScope st__law_cell) := ⟨rfl, rfl, rfl, by decide +kernel, rfl, by decide +kernel, by decide +kernel⟩
abbrev st__law_numbers : Stmt := topS 34
abbrev N__law_numbers : List Str := ["cell", "count", "limit", "found", "k", "mixed"]
theorem sc__law_numbers : FnScope N__law_numbers ["cell", "count", "limit"] (defScope st__law_numbers) := ⟨rfl, rfl, rfl, by decide +kernel, rfl, by decide +kernel, by decide +kernel⟩
abbrev st__law_same : Stmt := topS 35
abbrev N__law_same : List Str := ["told", "due", "k"]
theorem sc__law_same : FnScope N__law_same ["told", "due"] (defScope st__law_same) := ⟨rfl, rfl, rfl, by decide +kernel, rfl, by decide +kernel, by decide +kernel⟩
abbrev st__law_is_path : Stmt := topS 36
abbrev N__law_is_path : List Str := ["text", "part", "sign"]
theorem sc__law_is_path : FnScope N__law_is_path ["text"] (defScope st__law_is_path) := ⟨rfl, rfl, rfl, by decide +kernel, rfl, by decide +kernel, by decide +kernel⟩
abbrev st__law_is_glob : Stmt := topS 37
abbrev N__law_is_glob : List Str := ["text", "part", "odd", "sign"]
theorem sc__law_is_glob : FnScope N__law_is_glob ["text"] (defScope st__law_is_glob) := ⟨rfl, rfl, rfl, by decide +kernel, rfl, by decide +kernel, by decide +kernel⟩
abbrev st__law_set_drawn : Stmt := topS 38
abbrev N__law_set_drawn : List Str := ["draws", "depth", "draw", "kind"]
theorem sc__law_set_drawn : FnScope N__law_set_drawn ["draws", "depth"] (defScope st__law_set_drawn) := ⟨rfl, rfl, rfl, by decide +kernel, rfl, by decide +kernel, by decide +kernel⟩
abbrev st__law_set_text : Stmt := topS 39
abbrev N__law_set_text : List Str := ["question"]
theorem sc__law_set_text : FnScope N__law_set_text ["question"] (defScope st__law_set_text) := ⟨rfl, rfl, rfl, by decide +kernel, rfl, by decide +kernel, by decide +kernel⟩
abbrev st__law_question_text : Stmt := topS 40
abbrev N__law_question_text : List Str := ["question", "part"]
theorem sc__law_question_text : FnScope N__law_question_text ["question"] (defScope st__law_question_text) := ⟨rfl, rfl, rfl, by decide +kernel, rfl, by decide +kernel, by decide +kernel⟩
abbrev st__law_question : Stmt := topS 41
abbrev N__law_question : List Str := ["draws", "draw", "paths", "first", "second"]
theorem sc__law_question : FnScope N__law_question ["draws"] (defScope st__law_question) := ⟨rfl, rfl, rfl, by decide +kernel, rfl, by decide +kernel, by decide +kernel⟩
abbrev st__law_read : Stmt := topS 42
abbrev N__law_read : List Str := ["string", "e"]
theorem sc__law_read : FnScope N__law_read ["string"] (defScope st__law_read) := ⟨rfl, rfl, rfl, by decide +kernel, rfl, by decide +kernel, by decide +kernel⟩
abbrev st__law_set_part : Stmt := topS 43
abbrev N__law_set_part : List Str := ["words", "at", "word", "inner", "first", "second"]
theorem sc__law_set_part : FnScope N__law_set_part ["words", "at"] (defScope st__law_set_part) := ⟨rfl, rfl, rfl, by decide +kernel, rfl, by decide +kernel, by decide +kernel⟩
abbrev st__law_due : Stmt := topS 44
abbrev N__law_due : List Str := ["string", "words", "parts", "found", "k"]
theorem sc__law_due : FnScope N__law_due ["string"] (defScope st__law_due) := ⟨rfl, rfl, rfl, by decide +kernel, rfl, by decide +kernel, by decide +kernel⟩
abbrev st__law_bent : Stmt := topS 45
abbrev N__law_bent : List Str := ["text", "draws", "signs", "at", "sign", "words", "spot", "found", "new"]
theorem sc__law_bent : FnScope N__law_bent ["text", "draws"] (defScope st__law_bent) := ⟨rfl, rfl, rfl, by decide +kernel, rfl, by decide +kernel, by decide +kernel⟩
abbrev st_law : Stmt := topS 46
abbrev N_law : List Str := ["script", "draws", "more", "turn", "question", "text", "k", "string", "some"]
theorem sc_law : FnScope N_law ["script"] (defScope st_law) := ⟨rfl, rfl, rfl, by decide +kernel, rfl, by decide +kernel, by decide +kernel⟩
def tup_PLAIN_SETS : List (List Nat) := [[97, 108, 108], [116, 97, 114, 103, 101, 116, 115], [115, 111, 117, 114, 99, 101, 115], [109, 105, 115, 115, 105, 110, 103], [109, 97, 100, 101], [98, 97, 100], [108, 105, 115, 116, 115]]
def tup_LED_SETS : List (List Nat) := [[110, 101, 101, 100, 115], [117, 115, 101, 114, 115], [98, 101, 104, 105, 110, 100], [97, 104, 101, 97, 100]]
def tup_TWO_SETS : List (List Nat) := [[98, 111, 116, 104], [101, 105, 116, 104, 101, 114], [119, 105, 116, 104, 111, 117, 116]]
def tup_COUNTED : List (List Nat) := [[119, 97, 121, 115], [99, 111, 117, 110, 116]]
/-! the denotations -/
def B_are_signs : SF :=
    sRet (eAnd (op2 gNe (eVar 0) (eC (.str []))) (op1 (gAllAny true) (lcF (iVal (eVar 0)) [2] (gNm 2) (tYesF) (op2 (gIn false) (eVar 2) (eVar 1)))))
def F_are_signs : FD := fnD 3 2 B_are_signs
def B_is_path : SF :=
    sRet (eAnd (op2 gLe (op1 gLen (eVar 0)) (eC (.int 60))) (op1 (gAllAny true) (lcF (iVal (mth1 gSplit (eVar 0) (eC (.str [47])))) [1] (gNm 1) (tYesF) (eCall (F_are_signs) 2 (aCons (eVar 1) (aCons (eC (.str [97, 98, 99, 100, 101, 102, 103, 104, 105, 106, 107, 108, 109, 110, 111, 112, 113, 114, 115, 116, 117, 118, 119, 120, 121, 122, 48, 49, 50, 51, 52, 53, 54, 55, 56, 57, 46, 45])) (aNil)))))))
def F_is_path : FD := fnD 2 1 B_is_path
def B_is_glob_part : SF :=
    sRet (eOr (op2 gEq (eVar 0) (eC (.str [42, 42]))) (eAnd (eCall (F_are_signs) 2 (aCons (eVar 0) (aCons (op2 gAdd (eC (.str [97, 98, 99, 100, 101, 102, 103, 104, 105, 106, 107, 108, 109, 110, 111, 112, 113, 114, 115, 116, 117, 118, 119, 120, 121, 122, 48, 49, 50, 51, 52, 53, 54, 55, 56, 57, 46, 45])) (eC (.str [42]))) (aNil)))) (op2 (gInX true) (eC (.str [42, 42])) (eVar 0))))
def F_is_glob_part : FD := fnD 1 1 B_is_glob_part
def B_is_glob : SF :=
    sRet (eAnd (op2 gLe (op1 gLen (eVar 0)) (eC (.int 60))) (op1 (gAllAny true) (lcF (iVal (mth1 gSplit (eVar 0) (eC (.str [47])))) [1] (gNm 1) (tYesF) (eCall (F_is_glob_part) 1 (aCons (eVar 1) (aNil))))))
def F_is_glob : FD := fnD 2 1 B_is_glob
def B_demand : SF :=
    sIf (tNotF (tVal (eVar 0))) (sRaise "InvalidQuestion") (sSkip)
def F_demand : FD := fnD 1 1 B_demand
def B_Asking___init__ : XF :=
    xSeq (xFld "Asking" "string" (eVar 1)) <|
    xSeq (xFld "Asking" "at" (eC (.int 0))) <|
    xSkip
def F_Asking___init__ : FX := fnX 2 1 B_Asking___init__
def B_Asking_token : XF :=
    xSeq (xSet 1 (xLift (op1 (gFld "Asking" "at") (eVar 0)))) <|
    xSeq (whileX (tAndF (t2 gLt (op1 (gFld "Asking" "at") (eVar 0)) (op1 gLen (op1 (gFld "Asking" "string") (eVar 0)))) (t2 (gIn true) (op2 gIx (op1 (gFld "Asking" "string") (eVar 0)) (op1 (gFld "Asking" "at") (eVar 0))) (eC (.str [32, 40, 41])))) (xSeq (xAug "Asking" "at" (eC (.int 1))) <|
    xSkip) 100000) <|
    xSeq (xRet (xLift (eSl (op1 (gFld "Asking" "string") (eVar 0)) (oSome (eVar 1)) (oSome (op1 (gFld "Asking" "at") (eVar 0)))))) <|
    xSkip
def F_Asking_token : FX := fnX 2 0 B_Asking_token
def B_Asking_meet : XF :=
    xSeq (xDo (xLift (eCall (F_demand) 1 (aCons (op2 gEq (eSl (op1 (gFld "Asking" "string") (eVar 0)) (oSome (op1 (gFld "Asking" "at") (eVar 0))) (oSome (op2 gAdd (op1 (gFld "Asking" "at") (eVar 0)) (eC (.int 1))))) (eVar 1)) (aNil))))) <|
    xSeq (xAug "Asking" "at" (eC (.int 1))) <|
    xSkip
def F_Asking_meet : FX := fnX 2 1 B_Asking_meet
def B_Asking_whole_set (G1 G2 : FX) : XF :=
    xSeq (xIf (t2 gEq (eSl (op1 (gFld "Asking" "string") (eVar 0)) (oSome (op1 (gFld "Asking" "at") (eVar 0))) (oSome (op2 gAdd (op1 (gFld "Asking" "at") (eVar 0)) (eC (.int 1))))) (eC (.str [40]))) (xSeq (xRet (xApp 0 0 (isOf "Asking" "two_sets") (G2) aNil)) <|
    xSkip) (xSkip)) <|
    xSeq (xSet 1 (xApp 0 0 (isOf "Asking" "token") (F_Asking_token) aNil)) <|
    xSeq (xIf (t2 (gInT false) (eVar 1) (eC (.tup (tup_PLAIN_SETS.map D.str)))) (xSeq (xRet (xLift (disp (fun ds => (.cl, .tup ds)) (aCons (eVar 1) (aNil))))) <|
    xSkip) (xSkip)) <|
    xSeq (xDo (xApp 0 1 (isOf "Asking" "meet") (F_Asking_meet) (aCons (eC (.str [32])) (aNil)))) <|
    xSeq (xIf (tE' (op1 (gKinF [[112, 97, 116, 104], [102, 105, 116, 115]]) (eVar 1))) (xSeq (xSet 2 (xApp 0 0 (isOf "Asking" "token") (F_Asking_token) aNil)) <|
    xSeq (xNamed 3 1 2 [112, 97, 116, 104] [102, 105, 116, 115] (F_is_path) (F_is_glob) (F_demand)) <|
    xSeq (xRet (xLift (disp (fun ds => (.cl, .tup ds)) (aCons (eVar 1) (aCons (eVar 2) (aNil)))))) <|
    xSkip) (xSkip)) <|
    xSeq (xDo (xLift (eCall (F_demand) 1 (aCons (op2 (gInT false) (eVar 1) (eC (.tup (tup_LED_SETS.map D.str)))) (aNil))))) <|
    xSeq (xRet (xTup (xaCons (xLift (eVar 1)) (xaCons (xApp 0 0 (isOf "Asking" "whole_set") (G1) aNil) (xaNil))))) <|
    xSkip
def B_Asking_two_sets (G1 G2 : FX) : XF :=
    xSeq (xDo (xApp 0 1 (isOf "Asking" "meet") (F_Asking_meet) (aCons (eC (.str [40])) (aNil)))) <|
    xSeq (xSet 1 (xApp 0 0 (isOf "Asking" "whole_set") (G1) aNil)) <|
    xSeq (xDo (xApp 0 1 (isOf "Asking" "meet") (F_Asking_meet) (aCons (eC (.str [32])) (aNil)))) <|
    xSeq (xSet 2 (xApp 0 0 (isOf "Asking" "token") (F_Asking_token) aNil)) <|
    xSeq (xDo (xLift (eCall (F_demand) 1 (aCons (op2 (gInT false) (eVar 2) (eC (.tup (tup_TWO_SETS.map D.str)))) (aNil))))) <|
    xSeq (xDo (xApp 0 1 (isOf "Asking" "meet") (F_Asking_meet) (aCons (eC (.str [32])) (aNil)))) <|
    xSeq (xSet 3 (xApp 0 0 (isOf "Asking" "whole_set") (G1) aNil)) <|
    xSeq (xDo (xApp 0 1 (isOf "Asking" "meet") (F_Asking_meet) (aCons (eC (.str [41])) (aNil)))) <|
    xSeq (xRet (xLift (disp (fun ds => (.cl, .tup ds)) (aCons (eVar 2) (aCons (eVar 1) (aCons (eVar 3) (aNil))))))) <|
    xSkip
def F_Asking_whole_set_ : Nat → FX × FX
  | 0 => (fun _ _ => .bad, fun _ _ => .bad)
  | k + 1 => (fnX 4 0 (B_Asking_whole_set (F_Asking_whole_set_ k).1 (F_Asking_whole_set_ k).2), fnX 4 0 (B_Asking_two_sets (F_Asking_whole_set_ k).1 (F_Asking_whole_set_ k).2))
def B_read_set : SF :=
    sSeq (sSet 1 (eMake "Asking" 1 (F_Asking___init__) (aCons (eVar 0) (aNil)))) <|
    sSeq (sSetX 2 1 (xApp 1 0 (isOf "Asking" "whole_set") ((F_Asking_whole_set_ 220).1) aNil)) <|
    sSeq (sDrop (eCall (F_demand) 1 (aCons (op2 gEq (op1 (gFld "Asking" "at") (eVar 1)) (op1 gLen (eVar 0))) (aNil)))) <|
    sRetV 2
def F_read_set : FD := fnD 3 1 B_read_set
def B_number_in : SF :=
    sSeq (sDrop (eCall (F_demand) 1 (aCons (eAnd (chn gLe gLe (eC (.int 1)) (op1 gLen (eVar 0)) (eC (.int 2))) (eAnd (op1 (gAllAny true) (lcF (iVal (eVar 0)) [1] (gNm 1) (tYesF) (op2 (gIn false) (eVar 1) (eC (.str [48, 49, 50, 51, 52, 53, 54, 55, 56, 57]))))) (eOr (op2 gEq (eVar 0) (eC (.str [48]))) (op2 gNe (op2 gIx (eVar 0) (eC (.int 0))) (eC (.str [48])))))) (aNil)))) <|
    sSeq (sDrop (eCall (F_demand) 1 (aCons (op2 gLe (op1 gIntS (eVar 0)) (eC (.int 12))) (aNil)))) <|
    sRet (op1 gIntS (eVar 0))
def F_number_in : FD := fnD 2 1 B_number_in
def B_read_question : SF :=
    sSeq (sDrop (eCall (F_demand) 1 (aCons (op2 gLe (op1 gLen (eVar 0)) (eC (.int 400))) (aNil)))) <|
    sSeq (sAsg (mth1 gPart (eVar 0) (eC (.str [32]))) (gTp 3 (gsCons (gNm 1) (gsCons (gNm 2) (gsCons (gNm 3) (gsNil)))))) <|
    sSeq (sIf (t2 gEq (eVar 1) (eC (.str [115, 101, 116]))) (sRet (disp (fun ds => (.cl, .tup ds)) (aCons (eC (.str [115, 101, 116])) (aCons (eCall (F_read_set) 1 (aCons (eVar 3) (aNil))) (aNil))))) (sSkip)) <|
    sSeq (sSet 4 (mth1 gSplit (eVar 3) (eC (.str [32])))) <|
    sSeq (sDrop (eCall (F_demand) 1 (aCons (eOr (eAnd (op2 gEq (eVar 1) (eC (.str [119, 97, 121]))) (op2 gEq (op1 gLen (eVar 4)) (eC (.int 2)))) (eAnd (op2 (gInT false) (eVar 1) (eC (.tup (tup_COUNTED.map D.str)))) (op2 gEq (op1 gLen (eVar 4)) (eC (.int 3))))) (aNil)))) <|
    sSeq (sDrop (eCall (F_demand) 1 (aCons (eAnd (eCall (F_is_path) 1 (aCons (op2 gIx (eVar 4) (eC (.int 0))) (aNil))) (eCall (F_is_path) 1 (aCons (op2 gIx (eVar 4) (eC (.int 1))) (aNil)))) (aNil)))) <|
    sRet (op2 gCatT (disp (fun ds => (.cl, .tup ds)) (aCons (eVar 1) (aCons (op2 gIx (eVar 4) (eC (.int 0))) (aCons (op2 gIx (eVar 4) (eC (.int 1))) (aNil))))) (op1 gTuple (lcXF (iVal (eSl (eVar 4) (oSome (eC (.int 2))) (oNo))) [5] (gNm 5) (F_number_in) (aCons (eVar 5) (aNil)))))
def F_read_question : FD := fnD 6 1 B_read_question
def B_write_set (G : FD) : SF :=
    sSeq (sIf (t2 (gInT false) (op2 gIx (eVar 0) (eC (.int 0))) (eC (.tup (tup_TWO_SETS.map D.str)))) (sRet (op2 gAdd (op2 gAdd (op2 gAdd (op2 gAdd (op2 gAdd (op2 gAdd (eC (.str [40])) (eCall (G) 1 (aCons (op2 gIx (eVar 0) (eC (.int 1))) (aNil)))) (eC (.str [32]))) (op2 gIx (eVar 0) (eC (.int 0)))) (eC (.str [32]))) (eCall (G) 1 (aCons (op2 gIx (eVar 0) (eC (.int 2))) (aNil)))) (eC (.str [41])))) (sSkip)) <|
    sSeq (sIf (t2 (gInT false) (op2 gIx (eVar 0) (eC (.int 0))) (eC (.tup (tup_LED_SETS.map D.str)))) (sRet (op2 gAdd (op2 gAdd (op2 gIx (eVar 0) (eC (.int 0))) (eC (.str [32]))) (eCall (G) 1 (aCons (op2 gIx (eVar 0) (eC (.int 1))) (aNil))))) (sSkip)) <|
    sRet (mth1 gJoin (eC (.str [32])) (eVar 0))
def F_write_set : Nat → FD
  | 0 => fun _ => .bad
  | k + 1 => fnD 1 1 (B_write_set (F_write_set k))
def B_write_question : SF :=
    sSeq (sIf (t2 gEq (op2 gIx (eVar 0) (eC (.int 0))) (eC (.str [115, 101, 116]))) (sRet (op2 gAdd (op2 gAdd (eC (.str [115, 101, 116])) (eC (.str [32]))) (eCall (F_write_set 200) 1 (aCons (op2 gIx (eVar 0) (eC (.int 1))) (aNil))))) (sSkip)) <|
    sRet (mth1 gJoin (eC (.str [32])) (lcF (iVal (eVar 0)) [1] (gNm 1) (tYesF) (op1 gStrA (eVar 1))))
def F_write_question : FD := fnD 2 1 B_write_question
def B__law_cell : SF :=
    sSeq (sIf (t2 gLt (eVar 1) (op1 gLen (eVar 0))) (sRet (op1 gInt (op2 gIx (eVar 0) (eVar 1)))) (sSkip)) <|
    sRet (eC (.int 0))
def F__law_cell : FD := fnD 2 2 B__law_cell
def B__law_numbers : SF :=
    sSeq (sSet 3 (disp (fun ds => (.fr, .lst ds)) (aNil))) <|
    sSeq (sIf (t2 gGe (eVar 0) (op2 gPow (eC (.int 10)) (eC (.int 18)))) (sSeq (sFor (iRng (eVar 1)) (gNm 4) (sSeq (sApp 3 (op2 gMod (op1 gInt (eVar 0)) (eVar 2))) <|
    sSet 0 (op2 gFdiv (op1 gInt (eVar 0)) (eVar 2)))) <|
    sRetV 3) (sSkip)) <|
    sSeq (sFor (iRng (eVar 1)) (gNm 4) (sSeq (sSet 5 (op2 gMod (op1 gInt (op2 gAdd (op2 gAdd (op2 gMulI (eVar 0) (eC (.int 48271))) (op2 gMulI (eVar 4) (eC (.int 69621)))) (eC (.int 7)))) (eC (.int 2147483647)))) <|
    sSeq (sSet 5 (op2 gMod (op1 gInt (op2 gAdd (op2 gAdd (op2 gAdd (op2 gMulI (eVar 5) (eVar 5)) (op2 gMulI (eVar 5) (eC (.int 40692)))) (op2 gMulI (eVar 4) (eC (.int 16807)))) (eC (.int 11)))) (eC (.int 2147483399)))) <|
    sApp 3 (op2 gMod (op1 gInt (op2 gFdiv (eVar 5) (eC (.int 32)))) (eVar 2)))) <|
    sRetV 3
def F__law_numbers : FD := fnD 6 3 B__law_numbers
def B__law_same (G : FD) : SF :=
    sSeq (sIf (tVal (eIsi "list" (eVar 1))) (sIf (tOrF (tNotF (tVal (eIsi "list" (eVar 0)))) (t2 gNe (op1 gLen (eVar 0)) (op1 gLen (eVar 1)))) (sRet (eC (.bl false))) (sSkip)) (sIf (tVal (eIsi "tuple" (eVar 1))) (sIf (tOrF (tNotF (tVal (eIsi "tuple" (eVar 0)))) (t2 gNe (op1 gLen (eVar 0)) (op1 gLen (eVar 1)))) (sRet (eC (.bl false))) (sSkip)) (sIf (tE' (eIsN false (eVar 1))) (sRet (eIsN false (eVar 0))) (sIf (tVal (eIsi "bool" (eVar 1))) (sRet (eAnd (eIsi "bool" (eVar 0)) (op2 gEq (eVar 0) (eVar 1)))) (sIf (tVal (eIsi "int" (eVar 1))) (sRet (eAnd (eIsi "int" (eVar 0)) (eAnd (eNot (eIsi "bool" (eVar 0))) (op2 gEq (eVar 0) (eVar 1))))) (sRet (eAnd (eIsi "str" (eVar 0)) (op2 gEq (eVar 0) (eVar 1))))))))) <|
    sSeq (sFor (iRng (op1 gLen (eVar 1))) (gNm 2) (sIf (tNotF (tVal (eCall (G) 2 (aCons (op2 gIx (eVar 0) (eVar 2)) (aCons (op2 gIx (eVar 1) (eVar 2)) (aNil)))))) (sRet (eC (.bl false))) (sSkip))) <|
    sRet (eC (.bl true))
def F__law_same : Nat → FD
  | 0 => fun _ => .bad
  | k + 1 => fnD 3 2 (B__law_same (F__law_same k))
def B__law_is_path : SF :=
    sSeq (sIf (t2 gGt (op1 gLen (eVar 0)) (eC (.int 60))) (sRet (eC (.bl false))) (sSkip)) <|
    sSeq (sFor (iVal (mth1 gSplit (eVar 0) (eC (.str [47])))) (gNm 1) (sIf (tOrF (t2 gEq (eVar 1) (eC (.str []))) (t2 gGt (op1 gLen (lcF (iVal (eVar 1)) [2] (gNm 2) (t2 (gIn true) (eVar 2) (eC (.str [97, 98, 99, 100, 101, 102, 103, 104, 105, 106, 107, 108, 109, 110, 111, 112, 113, 114, 115, 116, 117, 118, 119, 120, 121, 122, 48, 49, 50, 51, 52, 53, 54, 55, 56, 57, 46, 45]))) (eVar 2))) (eC (.int 0)))) (sRet (eC (.bl false))) (sSkip))) <|
    sRet (eC (.bl true))
def F__law_is_path : FD := fnD 3 1 B__law_is_path
def B__law_is_glob : SF :=
    sSeq (sFor (iVal (mth1 gSplit (eVar 0) (eC (.str [47])))) (gNm 1) (sSeq (sSet 2 (lcF (iVal (eVar 1)) [3] (gNm 3) (t2 (gIn true) (eVar 3) (eC (.str [97, 98, 99, 100, 101, 102, 103, 104, 105, 106, 107, 108, 109, 110, 111, 112, 113, 114, 115, 116, 117, 118, 119, 120, 121, 122, 48, 49, 50, 51, 52, 53, 54, 55, 56, 57, 46, 45, 42]))) (eVar 3))) <|
    sIf (tAndF (t2 gNe (eVar 1) (eC (.str [42, 42]))) (tOrF (t2 gEq (eVar 1) (eC (.str []))) (tOrF (t2 gGt (op1 gLen (eVar 2)) (eC (.int 0))) (t2 (gInX false) (eC (.str [42, 42])) (eVar 1))))) (sRet (eC (.bl false))) (sSkip))) <|
    sRet (op2 gLe (op1 gLen (eVar 0)) (eC (.int 60)))
def F__law_is_glob : FD := fnD 4 1 B__law_is_glob
def B__law_set_drawn (G : FX) : XF :=
    xSeq (xSet 2 (xLift (eC (.int 0)))) <|
    xSeq (xIf (t2 gGt (op1 gLen (eVar 0)) (eC (.int 0))) (xSeq (xSet 2 (xPop 0)) <|
    xSkip) (xSkip)) <|
    xSeq (xIf (tOrF (t2 gEq (eVar 1) (eC (.int 0))) (t2 gEq (op2 gMod (eVar 2) (eC (.int 5))) (eC (.int 0)))) (xSeq (xSet 3 (xLift (op2 gMod (op2 gFdiv (eVar 2) (eC (.int 5))) (eC (.int 9))))) <|
    xSeq (xIf (t2 gLt (eVar 3) (eC (.int 7))) (xSeq (xRet (xLift (disp (fun ds => (.cl, .tup ds)) (aCons (op2 gIx (disp (fun ds => (.fr, .lst ds)) (aCons (eC (.str [97, 108, 108])) (aCons (eC (.str [116, 97, 114, 103, 101, 116, 115])) (aCons (eC (.str [115, 111, 117, 114, 99, 101, 115])) (aCons (eC (.str [109, 105, 115, 115, 105, 110, 103])) (aCons (eC (.str [109, 97, 100, 101])) (aCons (eC (.str [98, 97, 100])) (aCons (eC (.str [108, 105, 115, 116, 115])) (aNil))))))))) (eVar 3)) (aNil))))) <|
    xSkip) (xSkip)) <|
    xSeq (xIf (t2 gEq (eVar 3) (eC (.int 7))) (xSeq (xRet (xLift (disp (fun ds => (.cl, .tup ds)) (aCons (eC (.str [112, 97, 116, 104])) (aCons (op2 gIx (disp (fun ds => (.fr, .lst ds)) (aCons (eC (.str [97, 112, 112])) (aCons (eC (.str [120, 46, 111])) (aCons (eC (.str [113])) (aCons (eC (.str [120, 46, 99])) (aCons (eC (.str [101, 118, 101, 110, 46, 99])) (aCons (eC (.str [122, 122])) (aNil)))))))) (op2 gMod (op2 gFdiv (eVar 2) (eC (.int 45))) (eC (.int 6)))) (aNil)))))) <|
    xSkip) (xSkip)) <|
    xSeq (xRet (xLift (disp (fun ds => (.cl, .tup ds)) (aCons (eC (.str [102, 105, 116, 115])) (aCons (op2 gIx (disp (fun ds => (.fr, .lst ds)) (aCons (eC (.str [42, 46, 111])) (aCons (eC (.str [42, 42])) (aCons (eC (.str [116, 47, 42])) (aCons (eC (.str [42])) (aCons (eC (.str [42, 42, 47, 97])) (aCons (eC (.str [42, 46, 99])) (aNil)))))))) (op2 gMod (op2 gFdiv (eVar 2) (eC (.int 45))) (eC (.int 6)))) (aNil)))))) <|
    xSkip) (xSkip)) <|
    xSeq (xIf (t2 gLt (op2 gMod (eVar 2) (eC (.int 5))) (eC (.int 3))) (xSeq (xRet (xTup (xaCons (xLift (op2 gIx (disp (fun ds => (.fr, .lst ds)) (aCons (eC (.str [110, 101, 101, 100, 115])) (aCons (eC (.str [117, 115, 101, 114, 115])) (aCons (eC (.str [98, 101, 104, 105, 110, 100])) (aCons (eC (.str [97, 104, 101, 97, 100])) (aNil)))))) (op2 gMod (op2 gFdiv (eVar 2) (eC (.int 5))) (eC (.int 4))))) (xaCons (xApp 0 1 (fun _ => true) (G) (aCons (op2 gSub (eVar 1) (eC (.int 1))) (aNil))) (xaNil))))) <|
    xSkip) (xSkip)) <|
    xSeq (xRet (xTup (xaCons (xLift (op2 gIx (disp (fun ds => (.fr, .lst ds)) (aCons (eC (.str [98, 111, 116, 104])) (aCons (eC (.str [101, 105, 116, 104, 101, 114])) (aCons (eC (.str [119, 105, 116, 104, 111, 117, 116])) (aNil))))) (op2 gMod (op2 gFdiv (eVar 2) (eC (.int 5))) (eC (.int 3))))) (xaCons (xApp 0 1 (fun _ => true) (G) (aCons (op2 gSub (eVar 1) (eC (.int 1))) (aNil))) (xaCons (xApp 0 1 (fun _ => true) (G) (aCons (op2 gSub (eVar 1) (eC (.int 1))) (aNil))) (xaNil)))))) <|
    xSkip
def F__law_set_drawn : Nat → FX
  | 0 => fun _ _ => .bad
  | k + 1 => fnX 4 1 (B__law_set_drawn (F__law_set_drawn k))
def B__law_set_text (G : FD) : SF :=
    sSeq (sIf (t2 gEq (op1 gLen (eVar 0)) (eC (.int 3))) (sRet (op2 gAdd (op2 gAdd (op2 gAdd (op2 gAdd (op2 gAdd (op2 gAdd (eC (.str [40])) (eCall (G) 1 (aCons (op2 gIx (eVar 0) (eC (.int 1))) (aNil)))) (eC (.str [32]))) (op2 gIx (eVar 0) (eC (.int 0)))) (eC (.str [32]))) (eCall (G) 1 (aCons (op2 gIx (eVar 0) (eC (.int 2))) (aNil)))) (eC (.str [41])))) (sSkip)) <|
    sSeq (sIf (t2 gEq (op1 gLen (eVar 0)) (eC (.int 1))) (sRet (op2 gIx (eVar 0) (eC (.int 0)))) (sSkip)) <|
    sSeq (sIf (tVal (eIsi "str" (op2 gIx (eVar 0) (eC (.int 1))))) (sRet (op2 gAdd (op2 gAdd (op2 gIx (eVar 0) (eC (.int 0))) (eC (.str [32]))) (op2 gIx (eVar 0) (eC (.int 1))))) (sSkip)) <|
    sRet (op2 gAdd (op2 gAdd (op2 gIx (eVar 0) (eC (.int 0))) (eC (.str [32]))) (eCall (G) 1 (aCons (op2 gIx (eVar 0) (eC (.int 1))) (aNil))))
def F__law_set_text : Nat → FD
  | 0 => fun _ => .bad
  | k + 1 => fnD 1 1 (B__law_set_text (F__law_set_text k))
def B__law_question_text : SF :=
    sSeq (sIf (t2 gEq (op2 gIx (eVar 0) (eC (.int 0))) (eC (.str [115, 101, 116]))) (sRet (op2 gAdd (eC (.str [115, 101, 116, 32])) (eCall (F__law_set_text 200) 1 (aCons (op2 gIx (eVar 0) (eC (.int 1))) (aNil))))) (sSkip)) <|
    sRet (mth1 gJoin (eC (.str [32])) (lcF (iVal (eVar 0)) [1] (gNm 1) (tYesF) (op1 gStrA (eVar 1))))
def F__law_question_text : FD := fnD 2 1 B__law_question_text
def B__law_question : XF :=
    xSeq (xSet 1 (xLift (eC (.int 0)))) <|
    xSeq (xIf (t2 gGt (op1 gLen (eVar 0)) (eC (.int 0))) (xSeq (xSet 1 (xPop 0)) <|
    xSkip) (xSkip)) <|
    xSeq (xSet 2 (xLift (disp (fun ds => (.fr, .lst ds)) (aCons (eC (.str [97, 112, 112])) (aCons (eC (.str [120, 46, 111])) (aCons (eC (.str [113])) (aCons (eC (.str [112])) (aCons (eC (.str [97, 108, 108])) (aCons (eC (.str [120, 46, 99])) (aCons (eC (.str [117, 47, 98])) (aCons (eC (.str [119])) (aCons (eC (.str [116, 47, 97])) (aCons (eC (.str [122, 122])) (aNil)))))))))))))) <|
    xSeq (xIf (t2 gEq (op2 gMod (eVar 1) (eC (.int 4))) (eC (.int 0))) (xSeq (xRet (xTup (xaCons (xLift (eC (.str [115, 101, 116]))) (xaCons (xApp 0 1 (fun _ => true) (F__law_set_drawn 6) (aCons (eC (.int 3)) (aNil))) (xaNil))))) <|
    xSkip) (xSkip)) <|
    xSeq (xSet 3 (xLift (op2 gIx (eVar 2) (op2 gMod (op2 gFdiv (eVar 1) (eC (.int 4))) (eC (.int 10)))))) <|
    xSeq (xSet 4 (xLift (op2 gIx (eVar 2) (op2 gMod (op2 gFdiv (eVar 1) (eC (.int 40))) (eC (.int 10)))))) <|
    xSeq (xIf (t2 gEq (op2 gMod (eVar 1) (eC (.int 4))) (eC (.int 1))) (xSeq (xRet (xLift (disp (fun ds => (.cl, .tup ds)) (aCons (eC (.str [119, 97, 121])) (aCons (eVar 3) (aCons (eVar 4) (aNil))))))) <|
    xSkip) (xSkip)) <|
    xSeq (xRet (xLift (disp (fun ds => (.cl, .tup ds)) (aCons (op2 gIx (disp (fun ds => (.fr, .lst ds)) (aCons (eC (.str [119, 97, 121, 115])) (aCons (eC (.str [99, 111, 117, 110, 116])) (aNil)))) (op2 gMod (eVar 1) (eC (.int 2)))) (aCons (eVar 3) (aCons (eVar 4) (aCons (op2 gMod (op2 gFdiv (eVar 1) (eC (.int 400))) (eC (.int 13))) (aNil)))))))) <|
    xSkip
def F__law_question : FX := fnX 5 0 B__law_question
def B__law_read : SF :=
    sTryV 1 "InvalidQuestion" (sRet (eCall (F_read_question) 1 (aCons (eVar 0) (aNil)))) .non
def F__law_read : FD := fnD 2 1 B__law_read
def B__law_set_part (G : FD) : SF :=
    sSeq (sIf (t2 gGe (eVar 1) (op1 gLen (eVar 0))) (sRet (eC .non)) (sSkip)) <|
    sSeq (sSet 2 (op2 gIx (eVar 0) (eVar 1))) <|
    sSeq (sIf (t2 (gIn false) (eVar 2) (disp (fun ds => (.fr, .lst ds)) (aCons (eC (.str [97, 108, 108])) (aCons (eC (.str [116, 97, 114, 103, 101, 116, 115])) (aCons (eC (.str [115, 111, 117, 114, 99, 101, 115])) (aCons (eC (.str [109, 105, 115, 115, 105, 110, 103])) (aCons (eC (.str [109, 97, 100, 101])) (aCons (eC (.str [98, 97, 100])) (aCons (eC (.str [108, 105, 115, 116, 115])) (aNil)))))))))) (sRet (disp (fun ds => (.cl, .tup ds)) (aCons (disp (fun ds => (.cl, .tup ds)) (aCons (eVar 2) (aNil))) (aCons (op2 gAdd (eVar 1) (eC (.int 1))) (aNil))))) (sSkip)) <|
    sSeq (sIf (tOrF (t2 gEq (eVar 2) (eC (.str [112, 97, 116, 104]))) (t2 gEq (eVar 2) (eC (.str [102, 105, 116, 115])))) (sSeq (sIf (tOrF (t2 gGe (op2 gAdd (eVar 1) (eC (.int 1))) (op1 gLen (eVar 0))) (tNotF (tVal (op2 gIx (disp (fun ds => (.fr, .lst ds)) (aCons (eCall (F__law_is_path) 1 (aCons (op2 gIx (eVar 0) (op2 gAdd (eVar 1) (eC (.int 1)))) (aNil))) (aCons (eCall (F__law_is_glob) 1 (aCons (op2 gIx (eVar 0) (op2 gAdd (eVar 1) (eC (.int 1)))) (aNil))) (aNil)))) (op1 gInt (op2 gEq (eVar 2) (eC (.str [102, 105, 116, 115])))))))) (sRet (eC .non)) (sSkip)) <|
    sRet (disp (fun ds => (.cl, .tup ds)) (aCons (disp (fun ds => (.cl, .tup ds)) (aCons (eVar 2) (aCons (op2 gIx (eVar 0) (op2 gAdd (eVar 1) (eC (.int 1)))) (aNil)))) (aCons (op2 gAdd (eVar 1) (eC (.int 2))) (aNil))))) (sSkip)) <|
    sSeq (sIf (t2 (gIn false) (eVar 2) (disp (fun ds => (.fr, .lst ds)) (aCons (eC (.str [110, 101, 101, 100, 115])) (aCons (eC (.str [117, 115, 101, 114, 115])) (aCons (eC (.str [98, 101, 104, 105, 110, 100])) (aCons (eC (.str [97, 104, 101, 97, 100])) (aNil))))))) (sSeq (sSet 3 (eCall (G) 2 (aCons (eVar 0) (aCons (op2 gAdd (eVar 1) (eC (.int 1))) (aNil))))) <|
    sSeq (sIf (tE' (eIsN false (eVar 3))) (sRet (eC .non)) (sSkip)) <|
    sRet (disp (fun ds => (.cl, .tup ds)) (aCons (disp (fun ds => (.cl, .tup ds)) (aCons (eVar 2) (aCons (op2 gIx (eVar 3) (eC (.int 0))) (aNil)))) (aCons (op2 gIx (eVar 3) (eC (.int 1))) (aNil))))) (sSkip)) <|
    sSeq (sIf (t2 gNe (eVar 2) (eC (.str [40]))) (sRet (eC .non)) (sSkip)) <|
    sSeq (sSet 4 (eCall (G) 2 (aCons (eVar 0) (aCons (op2 gAdd (eVar 1) (eC (.int 1))) (aNil))))) <|
    sSeq (sIf (tOrF (tE' (eIsN false (eVar 4))) (tOrF (t2 gGe (op2 gIx (eVar 4) (eC (.int 1))) (op1 gLen (eVar 0))) (t2 (gIn true) (op2 gIx (eVar 0) (op2 gIx (eVar 4) (eC (.int 1)))) (disp (fun ds => (.fr, .lst ds)) (aCons (eC (.str [98, 111, 116, 104])) (aCons (eC (.str [101, 105, 116, 104, 101, 114])) (aCons (eC (.str [119, 105, 116, 104, 111, 117, 116])) (aNil)))))))) (sRet (eC .non)) (sSkip)) <|
    sSeq (sSet 5 (eCall (G) 2 (aCons (eVar 0) (aCons (op2 gAdd (op2 gIx (eVar 4) (eC (.int 1))) (eC (.int 1))) (aNil))))) <|
    sSeq (sIf (tOrF (tE' (eIsN false (eVar 5))) (tOrF (t2 gGe (op2 gIx (eVar 5) (eC (.int 1))) (op1 gLen (eVar 0))) (t2 gNe (op2 gIx (eVar 0) (op2 gIx (eVar 5) (eC (.int 1)))) (eC (.str [41]))))) (sRet (eC .non)) (sSkip)) <|
    sRet (disp (fun ds => (.cl, .tup ds)) (aCons (disp (fun ds => (.cl, .tup ds)) (aCons (op2 gIx (eVar 0) (op2 gIx (eVar 4) (eC (.int 1)))) (aCons (op2 gIx (eVar 4) (eC (.int 0))) (aCons (op2 gIx (eVar 5) (eC (.int 0))) (aNil))))) (aCons (op2 gAdd (op2 gIx (eVar 5) (eC (.int 1))) (eC (.int 1))) (aNil))))
def F__law_set_part : Nat → FD
  | 0 => fun _ => .bad
  | k + 1 => fnD 6 2 (B__law_set_part (F__law_set_part k))
def B__law_due : SF :=
    sSeq (sSet 1 (mth1 gSplit (eVar 0) (eC (.str [32])))) <|
    sSeq (sIf (t2 gGt (op1 gLen (eVar 0)) (eC (.int 400))) (sRet (eC .non)) (sSkip)) <|
    sSeq (sIf (t2 gEq (op2 gIx (eVar 1) (eC (.int 0))) (eC (.str [115, 101, 116]))) (sSeq (sSet 2 (mth1 gSplit (op1 (gRepl [41] [32, 41]) (op1 (gRepl [40] [40, 32]) (eSl (eVar 0) (oSome (eC (.int 4))) (oNo)))) (eC (.str [32])))) <|
    sSeq (sSet 3 (eCall (F__law_set_part 200) 2 (aCons (eVar 2) (aCons (eC (.int 0)) (aNil))))) <|
    sSeq (sIf (tOrF (tE' (eIsN false (eVar 3))) (tOrF (t2 gNe (op2 gIx (eVar 3) (eC (.int 1))) (op1 gLen (eVar 2))) (t2 gNe (op2 gAdd (eC (.str [115, 101, 116, 32])) (eCall (F__law_set_text 200) 1 (aCons (op2 gIx (eVar 3) (eC (.int 0))) (aNil)))) (eVar 0)))) (sRet (eC .non)) (sSkip)) <|
    sSeq (sRet (disp (fun ds => (.cl, .tup ds)) (aCons (eC (.str [115, 101, 116])) (aCons (op2 gIx (eVar 3) (eC (.int 0))) (aNil))))) <|
    sSkip) (sSkip)) <|
    sSeq (sIf (tOrF (t2 (gIn true) (op2 gIx (eVar 1) (eC (.int 0))) (disp (fun ds => (.fr, .lst ds)) (aCons (eC (.str [119, 97, 121])) (aCons (eC (.str [119, 97, 121, 115])) (aCons (eC (.str [99, 111, 117, 110, 116])) (aNil)))))) (tOrF (t2 gNe (op1 gLen (eVar 1)) (op2 gAdd (eC (.int 3)) (op1 gInt (op2 gNe (op2 gIx (eVar 1) (eC (.int 0))) (eC (.str [119, 97, 121])))))) (tOrF (tNotF (tVal (eCall (F__law_is_path) 1 (aCons (op2 gIx (eVar 1) (eC (.int 1))) (aNil))))) (tNotF (tVal (eCall (F__law_is_path) 1 (aCons (op2 gIx (eVar 1) (eC (.int 2))) (aNil)))))))) (sRet (eC .non)) (sSkip)) <|
    sSeq (sIf (t2 gEq (op2 gIx (eVar 1) (eC (.int 0))) (eC (.str [119, 97, 121]))) (sRet (disp (fun ds => (.cl, .tup ds)) (aCons (eC (.str [119, 97, 121])) (aCons (op2 gIx (eVar 1) (eC (.int 1))) (aCons (op2 gIx (eVar 1) (eC (.int 2))) (aNil)))))) (sSkip)) <|
    sSeq (sIf (t2 (gIn true) (op2 gIx (eVar 1) (eC (.int 3))) (lcF (iRng (eC (.int 13))) [4] (gNm 4) (tYesF) (op1 gStrA (eVar 4)))) (sRet (eC .non)) (sSkip)) <|
    sSeq (sRet (disp (fun ds => (.cl, .tup ds)) (aCons (op2 gIx (eVar 1) (eC (.int 0))) (aCons (op2 gIx (eVar 1) (eC (.int 1))) (aCons (op2 gIx (eVar 1) (eC (.int 2))) (aCons (op1 gIntS (op2 gIx (eVar 1) (eC (.int 3)))) (aNil))))))) <|
    sSkip
def F__law_due : FD := fnD 5 1 B__law_due
def B__law_bent : SF :=
    sSeq (sSet 2 (eC (.str [97, 98, 99, 112, 32, 40, 41, 47, 42, 46, 48, 49, 57]))) <|
    sSeq (sSet 3 (op2 gMod (op2 gIx (eVar 1) (eC (.int 0))) (op1 gLen (eVar 0)))) <|
    sSeq (sSet 4 (op2 gIx (eVar 2) (op2 gMod (op2 gIx (eVar 1) (eC (.int 1))) (eC (.int 13))))) <|
    sSeq (sSet 5 (mth1 gSplit (eVar 0) (eC (.str [32])))) <|
    sSeq (sSet 6 (op2 gMod (op2 gIx (eVar 1) (eC (.int 2))) (op1 gLen (eVar 5)))) <|
    sSeq (sSet 7 (disp (fun ds => (.fr, .lst ds)) (aCons (op2 gAdd (eSl (eVar 0) (oSome (eC (.int 0))) (oSome (eVar 3))) (eSl (eVar 0) (oSome (op2 gAdd (eVar 3) (eC (.int 1)))) (oNo))) (aCons (op2 gAdd (op2 gAdd (eSl (eVar 0) (oSome (eC (.int 0))) (oSome (eVar 3))) (eVar 4)) (eSl (eVar 0) (oSome (eVar 3)) (oNo))) (aCons (op2 gAdd (op2 gAdd (eSl (eVar 0) (oSome (eC (.int 0))) (oSome (eVar 3))) (eVar 4)) (eSl (eVar 0) (oSome (op2 gAdd (eVar 3) (eC (.int 1)))) (oNo))) (aCons (op2 gAdd (eVar 0) (eC (.str [32]))) (aCons (op2 gAdd (eC (.str [32])) (eVar 0)) (aCons (eSl (eVar 0) (oSome (eC (.int 0))) (oSome (eVar 3))) (aCons (op2 gAdd (eVar 0) (eVar 0)) (aCons (op1 (gRep1 32 [32, 32]) (eVar 0)) (aNil))))))))))) <|
    sSeq (sSet 8 (op2 gIx (disp (fun ds => (.fr, .lst ds)) (aCons (eC (.str [97, 108, 108])) (aCons (eC (.str [112, 97, 116, 104])) (aCons (eC (.str [49, 50])) (aCons (eC (.str [49, 51])) (aCons (eC (.str [48, 49, 50])) (aCons (eC (.str [98, 111, 116, 104])) (aCons (eC (.str [])) (aCons (eC (.str [110, 101, 101, 100, 115])) (aCons (eC (.str [40, 97, 108, 108])) (aCons (eC (.str [102, 105, 116, 115, 32, 42, 42])) (aCons (eC (.str [119, 97, 121])) (aNil))))))))))))) (op2 gMod (op2 gFdiv (op2 gIx (eVar 1) (eC (.int 1))) (eC (.int 13))) (eC (.int 11))))) <|
    sSeq (sRet (op2 gAdd (eVar 7) (disp (fun ds => (.fr, .lst ds)) (aCons (mth1 gJoin (eC (.str [32])) (op2 gAdd (eSl (eVar 5) (oSome (eC (.int 0))) (oSome (eVar 6))) (eSl (eVar 5) (oSome (op2 gAdd (eVar 6) (eC (.int 1)))) (oNo)))) (aCons (mth1 gJoin (eC (.str [32])) (op2 gAdd (op2 gAdd (eSl (eVar 5) (oSome (eC (.int 0))) (oSome (eVar 6))) (disp (fun ds => (.fr, .lst ds)) (aCons (eVar 8) (aNil)))) (eSl (eVar 5) (oSome (eVar 6)) (oNo)))) (aCons (mth1 gJoin (eC (.str [32])) (op2 gAdd (op2 gAdd (eSl (eVar 5) (oSome (eC (.int 0))) (oSome (eVar 6))) (disp (fun ds => (.fr, .lst ds)) (aCons (eVar 8) (aNil)))) (eSl (eVar 5) (oSome (op2 gAdd (eVar 6) (eC (.int 1)))) (oNo)))) (aCons (eC (.str [])) (aCons (op2 gAdd (eVar 0) (eC (.str [41]))) (aNil))))))))) <|
    sSkip
def F__law_bent : FD := fnD 9 2 B__law_bent
def B_law : SF :=
    sSeq (sSet 1 (eCall (F__law_numbers) 3 (aCons (eCall (F__law_cell) 2 (aCons (eVar 0) (aCons (eC (.int 0)) (aNil)))) (aCons (eC (.int 160)) (aCons (eC (.int 5040)) (aNil)))))) <|
    sSeq (sSet 2 (eSl (eVar 1) (oSome (eC (.int 40))) (oNo))) <|
    sSeq (sFor (iRng (eC (.int 6))) (gNm 3) (sSeq (sSetX 4 2 (xApp 2 0 (fun _ => true) (F__law_question) (aNil))) <|
    sSeq (sSet 5 (eCall (F__law_question_text) 1 (aCons (eVar 4) (aNil)))) <|
    sSeq (sIf (tNotF (tVal (eCall (F__law_same 200) 2 (aCons (disp (fun ds => (.fr, .lst ds)) (aCons (eCall (F_write_question) 1 (aCons (eVar 4) (aNil))) (aCons (eCall (F__law_read) 1 (aCons (eVar 5) (aNil))) (aNil)))) (aCons (disp (fun ds => (.fr, .lst ds)) (aCons (eVar 5) (aCons (op2 gIx (disp (fun ds => (.fr, .lst ds)) (aCons (eVar 4) (aCons (eC .non) (aNil)))) (op1 gInt (op2 gGt (op1 gLen (eVar 5)) (eC (.int 400))))) (aNil)))) (aNil)))))) (sRet (eC (.bl false))) (sSkip)) <|
    sFor (iRng (eC (.int 3))) (gNm 6) (sFor (iVal (eCall (F__law_bent) 2 (aCons (eVar 5) (aCons (eSl (eVar 1) (oSome (op2 gAdd (op2 gMulI (eC (.int 3)) (eVar 3)) (op2 gMulI (eC (.int 4)) (eVar 6)))) (oNo)) (aNil))))) (gNm 7) (sIf (tNotF (tVal (eCall (F__law_same 200) 2 (aCons (eCall (F__law_read) 1 (aCons (eVar 7) (aNil))) (aCons (eCall (F__law_due) 1 (aCons (eVar 7) (aNil))) (aNil)))))) (sRet (eC (.bl false))) (sSkip))))) <|
    sSeq (sSet 8 (disp (fun ds => (.fr, .lst ds)) (aCons (op2 gAdd (op2 gAdd (eC (.str [115, 101, 116, 32])) (op2 gMulS (eC (.str [110, 101, 101, 100, 115, 32])) (eC (.int 65)))) (eC (.str [97, 108, 108]))) (aCons (op2 gAdd (op2 gAdd (eC (.str [115, 101, 116, 32])) (op2 gMulS (eC (.str [110, 101, 101, 100, 115, 32])) (eC (.int 66)))) (eC (.str [97, 108, 108]))) (aCons (eC (.str [115, 101, 116, 32, 112, 97, 116, 104, 32, 97, 47, 47, 98])) (aCons (eC (.str [115, 101, 116, 32, 102, 105, 116, 115, 32, 42, 42, 42])) (aCons (eC (.str [115, 101, 116, 32, 102, 105, 116, 115, 32, 97, 47, 42, 42, 47, 98])) (aCons (eC (.str [115, 101, 116, 32, 40, 97, 108, 108, 32, 98, 111, 116, 104, 32, 97, 108, 108])) (aNil))))))))) <|
    sSeq (sFor (iVal (op2 gAdd (eVar 8) (disp (fun ds => (.fr, .lst ds)) (aCons (eC (.str [115, 101, 116, 32, 40, 40, 97, 108, 108, 32, 98, 111, 116, 104, 32, 97, 108, 108, 41, 32, 101, 105, 116, 104, 101, 114, 32, 97, 108, 108, 41])) (aCons (eC (.str [119, 97, 121, 32, 97, 32, 98, 32, 99])) (aCons (eC (.str [99, 111, 117, 110, 116, 32, 97, 32, 98, 32, 49, 50])) (aNil))))))) (gNm 7) (sIf (tNotF (tVal (eCall (F__law_same 200) 2 (aCons (eCall (F__law_read) 1 (aCons (eVar 7) (aNil))) (aCons (eCall (F__law_due) 1 (aCons (eVar 7) (aNil))) (aNil)))))) (sRet (eC (.bl false))) (sSkip))) <|
    sRet (eC (.bl true))
def F_law : FD := fnD 9 1 B_law
/-! what the top has written -/
structure Top (w : World) (K : PySem.W.Frag) (mg : Str → Option Value) where
  a_are_signs : Addr
  d_are_signs : FuncData
  f_are_signs : Fun K "are_signs" "are_signs" st_are_signs a_are_signs d_are_signs
  b_are_signs : Binds K d_are_signs ["string", "signs"] []
  g_are_signs : mg "are_signs" = some (.ref a_are_signs)
  a_is_path : Addr
  d_is_path : FuncData
  f_is_path : Fun K "is_path" "is_path" st_is_path a_is_path d_is_path
  b_is_path : Binds K d_is_path ["string"] []
  g_is_path : mg "is_path" = some (.ref a_is_path)
  a_is_glob_part : Addr
  d_is_glob_part : FuncData
  f_is_glob_part : Fun K "is_glob_part" "is_glob_part" st_is_glob_part a_is_glob_part d_is_glob_part
  b_is_glob_part : Binds K d_is_glob_part ["part"] []
  g_is_glob_part : mg "is_glob_part" = some (.ref a_is_glob_part)
  a_is_glob : Addr
  d_is_glob : FuncData
  f_is_glob : Fun K "is_glob" "is_glob" st_is_glob a_is_glob d_is_glob
  b_is_glob : Binds K d_is_glob ["string"] []
  g_is_glob : mg "is_glob" = some (.ref a_is_glob)
  a_demand : Addr
  d_demand : FuncData
  f_demand : Fun K "demand" "demand" st_demand a_demand d_demand
  b_demand : Binds K d_demand ["good"] []
  g_demand : mg "demand" = some (.ref a_demand)
  a_Asking___init__ : Addr
  d_Asking___init__ : FuncData
  f_Asking___init__ : Fun K "__init__" "Asking.__init__" st_Asking___init__ a_Asking___init__ d_Asking___init__
  b_Asking___init__ : Binds K d_Asking___init__ ["self", "string"] []
  a_Asking_token : Addr
  d_Asking_token : FuncData
  f_Asking_token : Fun K "token" "Asking.token" st_Asking_token a_Asking_token d_Asking_token
  b_Asking_token : Binds K d_Asking_token ["self"] []
  a_Asking_meet : Addr
  d_Asking_meet : FuncData
  f_Asking_meet : Fun K "meet" "Asking.meet" st_Asking_meet a_Asking_meet d_Asking_meet
  b_Asking_meet : Binds K d_Asking_meet ["self", "sign"] []
  a_Asking_whole_set : Addr
  d_Asking_whole_set : FuncData
  f_Asking_whole_set : Fun K "whole_set" "Asking.whole_set" st_Asking_whole_set a_Asking_whole_set d_Asking_whole_set
  b_Asking_whole_set : Binds K d_Asking_whole_set ["self"] []
  a_Asking_two_sets : Addr
  d_Asking_two_sets : FuncData
  f_Asking_two_sets : Fun K "two_sets" "Asking.two_sets" st_Asking_two_sets a_Asking_two_sets d_Asking_two_sets
  b_Asking_two_sets : Binds K d_Asking_two_sets ["self"] []
  a_read_set : Addr
  d_read_set : FuncData
  f_read_set : Fun K "read_set" "read_set" st_read_set a_read_set d_read_set
  b_read_set : Binds K d_read_set ["string"] []
  g_read_set : mg "read_set" = some (.ref a_read_set)
  a_number_in : Addr
  d_number_in : FuncData
  f_number_in : Fun K "number_in" "number_in" st_number_in a_number_in d_number_in
  b_number_in : Binds K d_number_in ["word"] []
  g_number_in : mg "number_in" = some (.ref a_number_in)
  a_read_question : Addr
  d_read_question : FuncData
  f_read_question : Fun K "read_question" "read_question" st_read_question a_read_question d_read_question
  b_read_question : Binds K d_read_question ["string"] []
  g_read_question : mg "read_question" = some (.ref a_read_question)
  a_write_set : Addr
  d_write_set : FuncData
  f_write_set : Fun K "write_set" "write_set" st_write_set a_write_set d_write_set
  b_write_set : Binds K d_write_set ["question"] []
  g_write_set : mg "write_set" = some (.ref a_write_set)
  a_write_question : Addr
  d_write_question : FuncData
  f_write_question : Fun K "write_question" "write_question" st_write_question a_write_question d_write_question
  b_write_question : Binds K d_write_question ["question"] []
  g_write_question : mg "write_question" = some (.ref a_write_question)
  a__law_cell : Addr
  d__law_cell : FuncData
  f__law_cell : Fun K "_law_cell" "_law_cell" st__law_cell a__law_cell d__law_cell
  b__law_cell : Binds K d__law_cell ["script", "k"] []
  g__law_cell : mg "_law_cell" = some (.ref a__law_cell)
  a__law_numbers : Addr
  d__law_numbers : FuncData
  f__law_numbers : Fun K "_law_numbers" "_law_numbers" st__law_numbers a__law_numbers d__law_numbers
  b__law_numbers : Binds K d__law_numbers ["cell", "count", "limit"] []
  g__law_numbers : mg "_law_numbers" = some (.ref a__law_numbers)
  a__law_same : Addr
  d__law_same : FuncData
  f__law_same : Fun K "_law_same" "_law_same" st__law_same a__law_same d__law_same
  b__law_same : Binds K d__law_same ["told", "due"] []
  g__law_same : mg "_law_same" = some (.ref a__law_same)
  a__law_is_path : Addr
  d__law_is_path : FuncData
  f__law_is_path : Fun K "_law_is_path" "_law_is_path" st__law_is_path a__law_is_path d__law_is_path
  b__law_is_path : Binds K d__law_is_path ["text"] []
  g__law_is_path : mg "_law_is_path" = some (.ref a__law_is_path)
  a__law_is_glob : Addr
  d__law_is_glob : FuncData
  f__law_is_glob : Fun K "_law_is_glob" "_law_is_glob" st__law_is_glob a__law_is_glob d__law_is_glob
  b__law_is_glob : Binds K d__law_is_glob ["text"] []
  g__law_is_glob : mg "_law_is_glob" = some (.ref a__law_is_glob)
  a__law_set_drawn : Addr
  d__law_set_drawn : FuncData
  f__law_set_drawn : Fun K "_law_set_drawn" "_law_set_drawn" st__law_set_drawn a__law_set_drawn d__law_set_drawn
  b__law_set_drawn : Binds K d__law_set_drawn ["draws", "depth"] []
  g__law_set_drawn : mg "_law_set_drawn" = some (.ref a__law_set_drawn)
  a__law_set_text : Addr
  d__law_set_text : FuncData
  f__law_set_text : Fun K "_law_set_text" "_law_set_text" st__law_set_text a__law_set_text d__law_set_text
  b__law_set_text : Binds K d__law_set_text ["question"] []
  g__law_set_text : mg "_law_set_text" = some (.ref a__law_set_text)
  a__law_question_text : Addr
  d__law_question_text : FuncData
  f__law_question_text : Fun K "_law_question_text" "_law_question_text" st__law_question_text a__law_question_text d__law_question_text
  b__law_question_text : Binds K d__law_question_text ["question"] []
  g__law_question_text : mg "_law_question_text" = some (.ref a__law_question_text)
  a__law_question : Addr
  d__law_question : FuncData
  f__law_question : Fun K "_law_question" "_law_question" st__law_question a__law_question d__law_question
  b__law_question : Binds K d__law_question ["draws"] []
  g__law_question : mg "_law_question" = some (.ref a__law_question)
  a__law_read : Addr
  d__law_read : FuncData
  f__law_read : Fun K "_law_read" "_law_read" st__law_read a__law_read d__law_read
  b__law_read : Binds K d__law_read ["string"] []
  g__law_read : mg "_law_read" = some (.ref a__law_read)
  a__law_set_part : Addr
  d__law_set_part : FuncData
  f__law_set_part : Fun K "_law_set_part" "_law_set_part" st__law_set_part a__law_set_part d__law_set_part
  b__law_set_part : Binds K d__law_set_part ["words", "at"] []
  g__law_set_part : mg "_law_set_part" = some (.ref a__law_set_part)
  a__law_due : Addr
  d__law_due : FuncData
  f__law_due : Fun K "_law_due" "_law_due" st__law_due a__law_due d__law_due
  b__law_due : Binds K d__law_due ["string"] []
  g__law_due : mg "_law_due" = some (.ref a__law_due)
  a__law_bent : Addr
  d__law_bent : FuncData
  f__law_bent : Fun K "_law_bent" "_law_bent" st__law_bent a__law_bent d__law_bent
  b__law_bent : Binds K d__law_bent ["text", "draws"] []
  g__law_bent : mg "_law_bent" = some (.ref a__law_bent)
  a_law : Addr
  d_law : FuncData
  f_law : Fun K "law" "law" st_law a_law d_law
  b_law : Binds K d_law ["script"] []
  g_law : mg "law" = some (.ref a_law)
  cA_Asking : Addr
  cN_Asking : PySem.W.nsIn K mainGlobals "Asking" = some (some (.ref cA_Asking))
  cG_Asking : mg "Asking" = some (.ref cA_Asking)
  cC_Asking : Cls K cA_Asking
  cM_Asking : Mk K cA_Asking a_Asking___init__
  cF_Asking_string : NoAttr K cA_Asking "string"
  cF_Asking_at : NoAttr K cA_Asking "at"
  cm_Asking_token : Meth K cA_Asking "token" a_Asking_token
  cm_Asking_meet : Meth K cA_Asking "meet" a_Asking_meet
  cm_Asking_whole_set : Meth K cA_Asking "whole_set" a_Asking_whole_set
  cm_Asking_two_sets : Meth K cA_Asking "two_sets" a_Asking_two_sets
  z_all : mg "all" = none
  z_len : mg "len" = none
  z_int : mg "int" = none
  z_tuple : mg "tuple" = none
  z_str : mg "str" = none
  z_range : mg "range" = none
  z_isinstance : mg "isinstance" = none
  z_list : mg "list" = none
  z_bool : mg "bool" = none
  c_LETTERS : ∃ t, mg "LETTERS" = some (.str "abcdefghijklmnopqrstuvwxyz" t)
  c_DIGITS : ∃ t, mg "DIGITS" = some (.str "0123456789" t)
  c_SIGNS : ∃ t, mg "SIGNS" = some (.str "abcdefghijklmnopqrstuvwxyz0123456789.-" t)
  c_MOST_SIGNS : ∃ t, mg "MOST_SIGNS" = some (.int 60 t)
  c_ANY : ∃ t, mg "ANY" = some (.str "**" t)
  c_MOST_QUESTION : ∃ t, mg "MOST_QUESTION" = some (.int 400 t)
  c_MOST_NEEDS : ∃ t, mg "MOST_NEEDS" = some (.int 12 t)
  c_DECIMAL : ∃ t, mg "DECIMAL" = some (.str "0123456789" t)
  c_WAY : ∃ t, mg "WAY" = some (.str "way" t)
  c_SET : ∃ t, mg "SET" = some (.str "set" t)
  d_PLAIN_SETS : Addr
  g_PLAIN_SETS : mg "PLAIN_SETS" = some (.ref d_PLAIN_SETS)
  t_PLAIN_SETS : KTup K d_PLAIN_SETS tup_PLAIN_SETS
  d_LED_SETS : Addr
  g_LED_SETS : mg "LED_SETS" = some (.ref d_LED_SETS)
  t_LED_SETS : KTup K d_LED_SETS tup_LED_SETS
  d_TWO_SETS : Addr
  g_TWO_SETS : mg "TWO_SETS" = some (.ref d_TWO_SETS)
  t_TWO_SETS : KTup K d_TWO_SETS tup_TWO_SETS
  d_COUNTED : Addr
  g_COUNTED : mg "COUNTED" = some (.ref d_COUNTED)
  t_COUNTED : KTup K d_COUNTED tup_COUNTED
  d_NAMED_SETS : Addr
  g_NAMED_SETS : mg "NAMED_SETS" = some (.ref d_NAMED_SETS)
  kf_NAMED_SETS : KF K w d_NAMED_SETS [([112, 97, 116, 104], a_is_path), ([102, 105, 116, 115], a_is_glob)]
  k_InvalidQuestion : Cl K mg "InvalidQuestion"
  x_InvalidQuestion : PySem.W.excIn K k_InvalidQuestion.C [.type "ValueError", .type "Exception", .type "BaseException", .type "object"] "ValueError.__new__" = true
  e_InvalidQuestion : PySem.W.exmOne K (.ref k_InvalidQuestion.C) (.ref k_InvalidQuestion.C) = some true
  i_InvalidQuestion : ExcI K k_InvalidQuestion.C
  C_BuildError : Addr
  m_BuildError : mg "BuildError" = some (.ref C_BuildError)
  C_InvalidText : Addr
  m_InvalidText : mg "InvalidText" = some (.ref C_InvalidText)
  y_InvalidQuestion : PySem.W.kitOne K (.ref k_InvalidQuestion.C) (.ref C_BuildError) = some true
  n_InvalidQuestion : PySem.W.kitOne K (.ref k_InvalidQuestion.C) (.ref C_InvalidText) = some false
section
variable {P : Program} {w : World} {K : PySem.W.Frag} {mg : Str → Option Value} {base : Heap}
theorem ok_are_signs (T : Top w K mg) : FnOk P w K mg base (L2.CX P w) (0 + 1) T.a_are_signs T.d_are_signs ["string", "signs"] (spD K mg 2 F_are_signs) :=
  fn_den T.f_are_signs sc_are_signs rfl fun cdv A outer s H E hr =>
    dss_one (ds_ret (de_and (de_ne (un_of hr) (de_var 0 (pv 0)) (de_str [])) (de_one (de_all rfl (by rfl) T.z_all (de_lc (own := [("sign", 2)]) rfl sc_are_signs.nd (blkOk_by (by show blkC N_are_signs (defScope st_are_signs) _ _ = true; decide +kernel)) (by decide) (di_val (de_var 0 (pv 0))) (fun _ _ _ _ _ => dg_name 2 sc_are_signs.nd rfl (.inl rfl) (.inr rfl)) (fun _ _ _ _ _ => dts_nil) (fun _ _ _ _ _ => de_in (de_var 2 (pv 2)) (de_var 1 (pv 1))))))))
theorem ok_is_path (T : Top w K mg) : FnOk P w K mg base (L2.CX P w) (1 + 1) T.a_is_path T.d_is_path ["string"] (spD K mg 1 F_is_path) :=
  fn_den T.f_is_path sc_is_path rfl fun cdv A outer s H E hr =>
    dss_one (ds_ret (de_and (de_le (de_len (by rfl) T.z_len (de_var 0 (pv 0))) (de_gint (by rfl) T.c_MOST_SIGNS.choose_spec)) (de_one (de_all rfl (by rfl) T.z_all (de_lc (own := [("part", 1)]) rfl sc_is_path.nd (blkOk_by (by show blkC N_is_path (defScope st_is_path) _ _ = true; decide +kernel)) (by decide) (di_val (de_split (de_var 0 (pv 0)) (de_str [47]))) (fun _ _ _ _ _ => dg_name 1 sc_is_path.nd rfl (.inl rfl) (.inr rfl)) (fun _ _ _ _ _ => dts_nil) (fun _ _ _ _ _ => de_call ((ok_are_signs T).mono (by decide)) hr (by rfl) T.g_are_signs T.f_are_signs.kp T.b_are_signs takes0 (da_cons (de_var 1 (pv 1)) (da_cons (de_gstr [97, 98, 99, 100, 101, 102, 103, 104, 105, 106, 107, 108, 109, 110, 111, 112, 113, 114, 115, 116, 117, 118, 119, 120, 121, 122, 48, 49, 50, 51, 52, 53, 54, 55, 56, 57, 46, 45] (by rfl) T.c_SIGNS.choose_spec) (da_nil)))))))))
theorem ok_is_glob_part (T : Top w K mg) : FnOk P w K mg base (L2.CX P w) (1 + 1) T.a_is_glob_part T.d_is_glob_part ["part"] (spD K mg 1 F_is_glob_part) :=
  fn_den T.f_is_glob_part sc_is_glob_part rfl fun cdv A outer s H E hr =>
    dss_one (ds_ret (de_or (de_eq (un_of hr) (de_var 0 (pv 0)) (de_gstr [42, 42] (by rfl) T.c_ANY.choose_spec)) (de_one (de_and (de_call ((ok_are_signs T).mono (by decide)) hr (by rfl) T.g_are_signs T.f_are_signs.kp T.b_are_signs (takes_of rfl rfl rfl rfl) (da_cons (de_var 0 (pv 0)) (da_cons (de_add (de_gstr [97, 98, 99, 100, 101, 102, 103, 104, 105, 106, 107, 108, 109, 110, 111, 112, 113, 114, 115, 116, 117, 118, 119, 120, 121, 122, 48, 49, 50, 51, 52, 53, 54, 55, 56, 57, 46, 45] (by rfl) T.c_SIGNS.choose_spec) (de_str [42])) (da_nil)))) (de_one (de_ninX (de_gstr [42, 42] (by rfl) T.c_ANY.choose_spec) (de_var 0 (pv 0))))))))
theorem ok_is_glob (T : Top w K mg) : FnOk P w K mg base (L2.CX P w) (2 + 1) T.a_is_glob T.d_is_glob ["string"] (spD K mg 1 F_is_glob) :=
  fn_den T.f_is_glob sc_is_glob rfl fun cdv A outer s H E hr =>
    dss_one (ds_ret (de_and (de_le (de_len (by rfl) T.z_len (de_var 0 (pv 0))) (de_gint (by rfl) T.c_MOST_SIGNS.choose_spec)) (de_one (de_all rfl (by rfl) T.z_all (de_lc (own := [("part", 1)]) rfl sc_is_glob.nd (blkOk_by (by show blkC N_is_glob (defScope st_is_glob) _ _ = true; decide +kernel)) (by decide) (di_val (de_split (de_var 0 (pv 0)) (de_str [47]))) (fun _ _ _ _ _ => dg_name 1 sc_is_glob.nd rfl (.inl rfl) (.inr rfl)) (fun _ _ _ _ _ => dts_nil) (fun _ _ _ _ _ => de_call ((ok_is_glob_part T).mono (by decide)) hr (by rfl) T.g_is_glob_part T.f_is_glob_part.kp T.b_is_glob_part takes0 (da_cons (de_var 1 (pv 1)) (da_nil))))))))
theorem ok_demand (T : Top w K mg) : FnOk P w K mg base (L2.CX P w) (0 + 1) T.a_demand T.d_demand ["good"] (spD K mg 1 F_demand) :=
  fn_den T.f_demand sc_demand rfl fun cdv A outer s H E hr =>
    dss_one (ds_if (dt_not (dt_truth (de_var 0 (pv 0)))) (dss_one (ds_raise rfl (takes_of rfl rfl rfl rfl) PySem.F.excBase_ValueError T.k_InvalidQuestion T.x_InvalidQuestion (by rfl))) (dss_nil))
theorem ok_Asking___init__ (T : Top w K mg) : FnOk P w K mg base (L2.CX P w) (0 + 1) T.a_Asking___init__ T.d_Asking___init__ ["self", "string"] (spX K mg 1 F_Asking___init__) :=
  fn_denX T.f_Asking___init__ sc_Asking___init__ rfl (List.cons_ne_nil _ _) fun cdv A outer s H E hr =>
    xss_cons (xs_fld T.cN_Asking T.cC_Asking T.cF_Asking_string (pv 0) (de_var 1 (pv 1))) <|
    xss_cons (xs_fld T.cN_Asking T.cC_Asking T.cF_Asking_at (pv 0) (de_int)) <|
    xss_nil
theorem ok_Asking_token (T : Top w K mg) : FnOk P w K mg base (L2.CX P w) (0 + 1) T.a_Asking_token T.d_Asking_token ["self"] (spX K mg 0 F_Asking_token) :=
  fn_denX T.f_Asking_token sc_Asking_token rfl (List.cons_ne_nil _ _) fun cdv A outer s H E hr =>
    xss_cons (xs_set 1 (by decide) sc_Asking_token.nd rfl (.inl rfl) (xe_lift (de_fld T.cN_Asking T.cC_Asking T.cF_Asking_at (de_var 0 (pv 0))))) <|
    xss_cons (xs_while 100000 (passes_of rfl) (dw_pt (dw_and (dt_lt (de_fld T.cN_Asking T.cC_Asking T.cF_Asking_at (de_var 0 (pv 0))) (de_len (by rfl) T.z_len (de_fld T.cN_Asking T.cC_Asking T.cF_Asking_string (de_var 0 (pv 0))))) (dw_and1 (dt_nin (de_ix (de_fld T.cN_Asking T.cC_Asking T.cF_Asking_string (de_var 0 (pv 0))) (de_fld T.cN_Asking T.cC_Asking T.cF_Asking_at (de_var 0 (pv 0)))) (de_str [32, 40, 41]))))) (xss_cons (xs_aug T.cN_Asking T.cC_Asking T.cF_Asking_at (pv 0) (de_int)) <|
    xss_nil)) <|
    xss_cons (xs_ret (xe_lift (de_slice (de_fld T.cN_Asking T.cC_Asking T.cF_Asking_string (de_var 0 (pv 0))) (do_some (de_var 1 (pv 1))) (do_some (de_fld T.cN_Asking T.cC_Asking T.cF_Asking_at (de_var 0 (pv 0))))))) <|
    xss_nil
theorem ok_Asking_meet (T : Top w K mg) : FnOk P w K mg base (L2.CX P w) (1 + 1) T.a_Asking_meet T.d_Asking_meet ["self", "sign"] (spX K mg 1 F_Asking_meet) :=
  fn_denX T.f_Asking_meet sc_Asking_meet rfl (List.cons_ne_nil _ _) fun cdv A outer s H E hr =>
    xss_cons (xs_do (xe_lift (de_call ((ok_demand T).mono (by decide)) hr (by rfl) T.g_demand T.f_demand.kp T.b_demand (takes_of rfl rfl rfl rfl) (da_cons (de_eq (un_of hr) (de_slice (de_fld T.cN_Asking T.cC_Asking T.cF_Asking_string (de_var 0 (pv 0))) (do_some (de_fld T.cN_Asking T.cC_Asking T.cF_Asking_at (de_var 0 (pv 0)))) (do_some (de_add (de_fld T.cN_Asking T.cC_Asking T.cF_Asking_at (de_var 0 (pv 0))) (de_int)))) (de_var 1 (pv 1))) (da_nil))))) <|
    xss_cons (xs_aug T.cN_Asking T.cC_Asking T.cF_Asking_at (pv 0) (de_int)) <|
    xss_nil
theorem ok_Asking_whole_set_ (T : Top w K mg) : ∀ k : Nat, FnOk P w K mg base (L2.CX P w) (k + 4) T.a_Asking_whole_set T.d_Asking_whole_set ["self"] (spX K mg 0 (F_Asking_whole_set_ k).1) ∧ FnOk P w K mg base (L2.CX P w) (k + 4) T.a_Asking_two_sets T.d_Asking_two_sets ["self"] (spX K mg 0 (F_Asking_whole_set_ k).2)
  | 0 => ⟨fn_badX rfl, fn_badX rfl⟩
  | k + 1 => by
    have HG := ok_Asking_whole_set_ T k
    refine ⟨?_, ?_⟩
    · exact fn_denX T.f_Asking_whole_set sc_Asking_whole_set rfl (List.cons_ne_nil _ _) fun cdv A outer s H E hr =>
    xss_cons (xs_if (dt_eq (un_of hr) (de_slice (de_fld T.cN_Asking T.cC_Asking T.cF_Asking_string (de_var 0 (pv 0))) (do_some (de_fld T.cN_Asking T.cC_Asking T.cF_Asking_at (de_var 0 (pv 0)))) (do_some (de_add (de_fld T.cN_Asking T.cC_Asking T.cF_Asking_at (de_var 0 (pv 0))) (de_int)))) (de_str [40])) (xss_cons (xs_ret (xe_meth0 (pv 0) T.cN_Asking T.cC_Asking T.cm_Asking_two_sets (HG.2) hr T.b_Asking_two_sets (takes_of rfl rfl rfl rfl))) <|
    xss_nil) (xss_nil)) <|
    xss_cons (xs_set 1 (by decide) sc_Asking_whole_set.nd rfl (.inl rfl) (xe_meth0 (pv 0) T.cN_Asking T.cC_Asking T.cm_Asking_token ((ok_Asking_token T).mono (by omega)) hr T.b_Asking_token (takes_of rfl rfl rfl rfl))) <|
    xss_cons (xs_if (dt_inT (de_var 1 (pv 1)) (de_gtup T.t_PLAIN_SETS (by rfl) T.g_PLAIN_SETS)) (xss_cons (xs_ret (xe_lift (de_tup (da_cons (de_var 1 (pv 1)) (da_nil))))) <|
    xss_nil) (xss_nil)) <|
    xss_cons (xs_do (xe_meth (pv 0) T.cN_Asking T.cC_Asking T.cm_Asking_meet ((ok_Asking_meet T).mono (by omega)) hr T.b_Asking_meet (takes_of rfl rfl rfl rfl) (da_cons (de_str [32]) (da_nil)))) <|
    xss_cons (xs_if (dt_kinF T.kf_NAMED_SETS rfl (by rfl) T.g_NAMED_SETS (de_var 1 (pv 1))) (xss_cons (xs_set 2 (by decide) sc_Asking_whole_set.nd rfl (.inl rfl) (xe_meth0 (pv 0) T.cN_Asking T.cC_Asking T.cm_Asking_token ((ok_Asking_token T).mono (by omega)) hr T.b_Asking_token (takes_of rfl rfl rfl rfl))) <|
    xss_named (ig := 3) (iw := 1) (im := 2) T.kf_NAMED_SETS (by rfl) T.g_NAMED_SETS (by decide) sc_Asking_whole_set.nd rfl (.inl rfl) (.inl rfl) (by decide) (by decide) (by decide) (pv 1) (pv 2) ((ok_is_path T).mono (by omega)) hr T.f_is_path.kp T.b_is_path ((ok_is_glob T).mono (by omega)) hr T.f_is_glob.kp T.b_is_glob ((ok_demand T).mono (by omega)) hr (by rfl) T.g_demand T.f_demand.kp T.b_demand (takes_of rfl rfl rfl rfl) (
    xss_cons (xs_ret (xe_lift (de_tup (da_cons (de_var 1 (pv 1)) (da_cons (de_var 2 (pv 2)) (da_nil)))))) <|
    xss_nil) (by decide) (by decide) (by decide) (fun _ _ => rfl) rfl rfl rfl rfl (.inr rfl)) (xss_nil)) <|
    xss_cons (xs_do (xe_lift (de_call ((ok_demand T).mono (by omega)) hr (by rfl) T.g_demand T.f_demand.kp T.b_demand (takes_of rfl rfl rfl rfl) (da_cons (de_inT (de_var 1 (pv 1)) (de_gtup T.t_LED_SETS (by rfl) T.g_LED_SETS)) (da_nil))))) <|
    xss_cons (xs_ret (xe_tup (xa_cons (xe_lift (de_var 1 (pv 1))) (xa_cons (xe_meth0 (pv 0) T.cN_Asking T.cC_Asking T.cm_Asking_whole_set (HG.1) hr T.b_Asking_whole_set (takes_of rfl rfl rfl rfl)) (xa_nil))))) <|
    xss_nil
    · exact fn_denX T.f_Asking_two_sets sc_Asking_two_sets rfl (List.cons_ne_nil _ _) fun cdv A outer s H E hr =>
    xss_cons (xs_do (xe_meth (pv 0) T.cN_Asking T.cC_Asking T.cm_Asking_meet ((ok_Asking_meet T).mono (by omega)) hr T.b_Asking_meet (takes_of rfl rfl rfl rfl) (da_cons (de_str [40]) (da_nil)))) <|
    xss_cons (xs_set 1 (by decide) sc_Asking_two_sets.nd rfl (.inl rfl) (xe_meth0 (pv 0) T.cN_Asking T.cC_Asking T.cm_Asking_whole_set (HG.1) hr T.b_Asking_whole_set (takes_of rfl rfl rfl rfl))) <|
    xss_cons (xs_do (xe_meth (pv 0) T.cN_Asking T.cC_Asking T.cm_Asking_meet ((ok_Asking_meet T).mono (by omega)) hr T.b_Asking_meet (takes_of rfl rfl rfl rfl) (da_cons (de_str [32]) (da_nil)))) <|
    xss_cons (xs_set 2 (by decide) sc_Asking_two_sets.nd rfl (.inl rfl) (xe_meth0 (pv 0) T.cN_Asking T.cC_Asking T.cm_Asking_token ((ok_Asking_token T).mono (by omega)) hr T.b_Asking_token (takes_of rfl rfl rfl rfl))) <|
    xss_cons (xs_do (xe_lift (de_call ((ok_demand T).mono (by omega)) hr (by rfl) T.g_demand T.f_demand.kp T.b_demand (takes_of rfl rfl rfl rfl) (da_cons (de_inT (de_var 2 (pv 2)) (de_gtup T.t_TWO_SETS (by rfl) T.g_TWO_SETS)) (da_nil))))) <|
    xss_cons (xs_do (xe_meth (pv 0) T.cN_Asking T.cC_Asking T.cm_Asking_meet ((ok_Asking_meet T).mono (by omega)) hr T.b_Asking_meet (takes_of rfl rfl rfl rfl) (da_cons (de_str [32]) (da_nil)))) <|
    xss_cons (xs_set 3 (by decide) sc_Asking_two_sets.nd rfl (.inl rfl) (xe_meth0 (pv 0) T.cN_Asking T.cC_Asking T.cm_Asking_whole_set (HG.1) hr T.b_Asking_whole_set (takes_of rfl rfl rfl rfl))) <|
    xss_cons (xs_do (xe_meth (pv 0) T.cN_Asking T.cC_Asking T.cm_Asking_meet ((ok_Asking_meet T).mono (by omega)) hr T.b_Asking_meet (takes_of rfl rfl rfl rfl) (da_cons (de_str [41]) (da_nil)))) <|
    xss_cons (xs_ret (xe_lift (de_tup (da_cons (de_var 2 (pv 2)) (da_cons (de_var 1 (pv 1)) (da_cons (de_var 3 (pv 3)) (da_nil))))))) <|
    xss_nil
theorem ok_read_set (T : Top w K mg) : FnOk P w K mg base (L2.CX P w) (225 + 1) T.a_read_set T.d_read_set ["string"] (spD K mg 1 F_read_set) :=
  fn_den T.f_read_set sc_read_set rfl fun cdv A outer s H E hr =>
    dss_cons (ds_set 1 sc_read_set.nd rfl (.inl rfl) (de_make T.cN_Asking T.cM_Asking ((ok_Asking___init__ T).mono (by decide)) hr (by rfl) T.cG_Asking T.b_Asking___init__ (takes_of rfl rfl rfl rfl) (da_cons (de_var 0 (pv 0)) (da_nil)))) <|
    dss_cons (ds_setX 2 xApp_own sc_read_set.nd rfl (.inl rfl) (xe_meth0 (pv 1) T.cN_Asking T.cC_Asking T.cm_Asking_whole_set ((ok_Asking_whole_set_ T 220).1.mono (by decide)) hr T.b_Asking_whole_set (takes_of rfl rfl rfl rfl))) <|
    dss_cons (ds_expr (de_call ((ok_demand T).mono (by decide)) hr (by rfl) T.g_demand T.f_demand.kp T.b_demand (takes_of rfl rfl rfl rfl) (da_cons (de_eq (un_of hr) (de_fld T.cN_Asking T.cC_Asking T.cF_Asking_at (de_var 1 (pv 1))) (de_len (by rfl) T.z_len (de_var 0 (pv 0)))) (da_nil)))) <|
    dss_one (ds_retV 2 (pv 2))
theorem ok_number_in (T : Top w K mg) : FnOk P w K mg base (L2.CX P w) (1 + 1) T.a_number_in T.d_number_in ["word"] (spD K mg 1 F_number_in) :=
  fn_den T.f_number_in sc_number_in rfl fun cdv A outer s H E hr =>
    dss_cons (ds_expr (de_call ((ok_demand T).mono (by decide)) hr (by rfl) T.g_demand T.f_demand.kp T.b_demand (takes_of rfl rfl rfl rfl) (da_cons (de_and (de_lele (de_int) (de_len (by rfl) T.z_len (de_var 0 (pv 0))) (de_int)) (de_and (de_all rfl (by rfl) T.z_all (de_lc (own := [("sign", 1)]) rfl sc_number_in.nd (blkOk_by (by show blkC N_number_in (defScope st_number_in) _ _ = true; decide +kernel)) (by decide) (di_val (de_var 0 (pv 0))) (fun _ _ _ _ _ => dg_name 1 sc_number_in.nd rfl (.inl rfl) (.inr rfl)) (fun _ _ _ _ _ => dts_nil) (fun _ _ _ _ _ => de_in (de_var 1 (pv 1)) (de_gstr [48, 49, 50, 51, 52, 53, 54, 55, 56, 57] (by rfl) T.c_DECIMAL.choose_spec)))) (de_one (de_or (de_eq (un_of hr) (de_var 0 (pv 0)) (de_str [48])) (de_one (de_ne (un_of hr) (de_ix (de_var 0 (pv 0)) (de_int)) (de_str [48]))))))) (da_nil)))) <|
    dss_cons (ds_expr (de_call ((ok_demand T).mono (by decide)) hr (by rfl) T.g_demand T.f_demand.kp T.b_demand (takes_of rfl rfl rfl rfl) (da_cons (de_le (de_ints (by rfl) T.z_int (de_var 0 (pv 0))) (de_gint (by rfl) T.c_MOST_NEEDS.choose_spec)) (da_nil)))) <|
    dss_one (ds_ret (de_ints (by rfl) T.z_int (de_var 0 (pv 0))))
theorem ok_read_question (T : Top w K mg) : FnOk P w K mg base (L2.CX P w) (226 + 1) T.a_read_question T.d_read_question ["string"] (spD K mg 1 F_read_question) :=
  fn_den T.f_read_question sc_read_question rfl fun cdv A outer s H E hr =>
    dss_cons (ds_expr (de_call ((ok_demand T).mono (by decide)) hr (by rfl) T.g_demand T.f_demand.kp T.b_demand (takes_of rfl rfl rfl rfl) (da_cons (de_le (de_len (by rfl) T.z_len (de_var 0 (pv 0))) (de_gint (by rfl) T.c_MOST_QUESTION.choose_spec)) (da_nil)))) <|
    dss_cons (ds_asg (de_part (de_var 0 (pv 0)) (de_str [32])) (dg_tup rfl (dgs_cons (dg_name 1 sc_read_question.nd rfl (.inl rfl) (.inl rfl)) (dgs_cons (dg_name 2 sc_read_question.nd rfl (.inl rfl) (.inl rfl)) (dgs_cons (dg_name 3 sc_read_question.nd rfl (.inl rfl) (.inl rfl)) (dgs_nil)))))) <|
    dss_cons (ds_if (dt_eq (un_of hr) (de_var 1 (pv 1)) (de_gstr [115, 101, 116] (by rfl) T.c_SET.choose_spec)) (dss_one (ds_ret (de_tup (da_cons (de_gstr [115, 101, 116] (by rfl) T.c_SET.choose_spec) (da_cons (de_call ((ok_read_set T).mono (by decide)) hr (by rfl) T.g_read_set T.f_read_set.kp T.b_read_set (takes_of rfl rfl rfl rfl) (da_cons (de_var 3 (pv 3)) (da_nil))) (da_nil)))))) (dss_nil)) <|
    dss_cons (ds_set 4 sc_read_question.nd rfl (.inl rfl) (de_split (de_var 3 (pv 3)) (de_str [32]))) <|
    dss_cons (ds_expr (de_call ((ok_demand T).mono (by decide)) hr (by rfl) T.g_demand T.f_demand.kp T.b_demand (takes_of rfl rfl rfl rfl) (da_cons (de_or (de_and (de_eq (un_of hr) (de_var 1 (pv 1)) (de_gstr [119, 97, 121] (by rfl) T.c_WAY.choose_spec)) (de_one (de_eq (un_of hr) (de_len (by rfl) T.z_len (de_var 4 (pv 4))) (de_int)))) (de_one (de_and (de_inT (de_var 1 (pv 1)) (de_gtup T.t_COUNTED (by rfl) T.g_COUNTED)) (de_one (de_eq (un_of hr) (de_len (by rfl) T.z_len (de_var 4 (pv 4))) (de_int)))))) (da_nil)))) <|
    dss_cons (ds_expr (de_call ((ok_demand T).mono (by decide)) hr (by rfl) T.g_demand T.f_demand.kp T.b_demand (takes_of rfl rfl rfl rfl) (da_cons (de_and (de_call ((ok_is_path T).mono (by decide)) hr (by rfl) T.g_is_path T.f_is_path.kp T.b_is_path (takes_of rfl rfl rfl rfl) (da_cons (de_ix (de_var 4 (pv 4)) (de_int)) (da_nil))) (de_one (de_call ((ok_is_path T).mono (by decide)) hr (by rfl) T.g_is_path T.f_is_path.kp T.b_is_path (takes_of rfl rfl rfl rfl) (da_cons (de_ix (de_var 4 (pv 4)) (de_int)) (da_nil))))) (da_nil)))) <|
    dss_one (ds_ret (de_catT (de_tup (da_cons (de_var 1 (pv 1)) (da_cons (de_ix (de_var 4 (pv 4)) (de_int)) (da_cons (de_ix (de_var 4 (pv 4)) (de_int)) (da_nil))))) (de_tuplec (by rfl) T.z_tuple (de_lcX (own := [("part", 5)]) rfl sc_read_question.nd rfl rfl (takes_of rfl rfl rfl rfl) (blkOk_by (by show blkC N_read_question (defScope st_read_question) _ _ = true; decide +kernel)) (by decide) (di_val (de_slice (de_var 4 (pv 4)) (do_some (de_int)) (do_none))) (fun _ _ _ _ _ _ => dg_name 5 sc_read_question.nd rfl (.inl rfl) (.inr rfl)) (fun _ _ _ _ _ _ => da_cons (de_var 5 (pv 5)) (da_nil)) (fun _ _ _ _ _ => de_call ((ok_number_in T).mono (by decide)) hr (by rfl) T.g_number_in T.f_number_in.kp T.b_number_in takes0 (da_cons (de_var 5 (pv 5)) (da_nil))) ((ok_number_in T).mono (by decide)) hr (fun _ _ _ _ _ _ => by rfl) T.g_number_in T.f_number_in.kp T.b_number_in))))
theorem ok_write_set (T : Top w K mg) : ∀ k : Nat, FnOk P w K mg base (L2.CX P w) (k + 1) T.a_write_set T.d_write_set ["question"] (spD K mg 1 (F_write_set k))
  | 0 => fn_bad rfl
  | k + 1 => by
    have HG := ok_write_set T k
    exact fn_den T.f_write_set sc_write_set rfl fun cdv A outer s H E hr =>
    dss_cons (ds_if (dt_inT (de_ix (de_var 0 (pv 0)) (de_int)) (de_gtup T.t_TWO_SETS (by rfl) T.g_TWO_SETS)) (dss_one (ds_ret (de_add (de_add (de_add (de_add (de_add (de_add (de_str [40]) (de_call (HG) hr (by rfl) T.g_write_set T.f_write_set.kp T.b_write_set (takes_of rfl rfl rfl rfl) (da_cons (de_ix (de_var 0 (pv 0)) (de_int)) (da_nil)))) (de_str [32])) (de_ix (de_var 0 (pv 0)) (de_int))) (de_str [32])) (de_call (HG) hr (by rfl) T.g_write_set T.f_write_set.kp T.b_write_set (takes_of rfl rfl rfl rfl) (da_cons (de_ix (de_var 0 (pv 0)) (de_int)) (da_nil)))) (de_str [41])))) (dss_nil)) <|
    dss_cons (ds_if (dt_inT (de_ix (de_var 0 (pv 0)) (de_int)) (de_gtup T.t_LED_SETS (by rfl) T.g_LED_SETS)) (dss_one (ds_ret (de_add (de_add (de_ix (de_var 0 (pv 0)) (de_int)) (de_str [32])) (de_call (HG) hr (by rfl) T.g_write_set T.f_write_set.kp T.b_write_set (takes_of rfl rfl rfl rfl) (da_cons (de_ix (de_var 0 (pv 0)) (de_int)) (da_nil)))))) (dss_nil)) <|
    dss_one (ds_ret (de_join (de_str [32]) (de_var 0 (pv 0))))
theorem ok_write_question (T : Top w K mg) : FnOk P w K mg base (L2.CX P w) (201 + 1) T.a_write_question T.d_write_question ["question"] (spD K mg 1 F_write_question) :=
  fn_den T.f_write_question sc_write_question rfl fun cdv A outer s H E hr =>
    dss_cons (ds_if (dt_eq (un_of hr) (de_ix (de_var 0 (pv 0)) (de_int)) (de_gstr [115, 101, 116] (by rfl) T.c_SET.choose_spec)) (dss_one (ds_ret (de_add (de_add (de_gstr [115, 101, 116] (by rfl) T.c_SET.choose_spec) (de_str [32])) (de_call ((ok_write_set T 200).mono (by decide)) hr (by rfl) T.g_write_set T.f_write_set.kp T.b_write_set (takes_of rfl rfl rfl rfl) (da_cons (de_ix (de_var 0 (pv 0)) (de_int)) (da_nil)))))) (dss_nil)) <|
    dss_one (ds_ret (de_join (de_str [32]) (de_lc (own := [("part", 1)]) rfl sc_write_question.nd (blkOk_by (by show blkC N_write_question (defScope st_write_question) _ _ = true; decide +kernel)) (by decide) (di_val (de_var 0 (pv 0))) (fun _ _ _ _ _ => dg_name 1 sc_write_question.nd rfl (.inl rfl) (.inr rfl)) (fun _ _ _ _ _ => dts_nil) (fun _ _ _ _ _ => de_strA (by rfl) T.z_str (de_var 1 (pv 1))))))
theorem ok__law_cell (T : Top w K mg) : FnOk P w K mg base (L2.CX P w) (0 + 1) T.a__law_cell T.d__law_cell ["script", "k"] (spD K mg 2 F__law_cell) :=
  fn_den T.f__law_cell sc__law_cell rfl fun cdv A outer s H E hr =>
    dss_cons (ds_if (dt_lt (de_var 1 (pv 1)) (de_len (by rfl) T.z_len (de_var 0 (pv 0)))) (dss_one (ds_ret (de_intc (by rfl) T.z_int (de_ix (de_var 0 (pv 0)) (de_var 1 (pv 1)))))) (dss_nil)) <|
    dss_one (ds_ret (de_int))
theorem ok__law_numbers (T : Top w K mg) : FnOk P w K mg base (L2.CX P w) (0 + 1) T.a__law_numbers T.d__law_numbers ["cell", "count", "limit"] (spD K mg 3 F__law_numbers) :=
  fn_den T.f__law_numbers sc__law_numbers rfl fun cdv A outer s H E hr =>
    dss_cons (ds_set 3 sc__law_numbers.nd rfl (.inl rfl) (de_lst (da_nil))) <|
    dss_cons (ds_if (dt_ge (de_var 0 (pv 0)) (de_pow (de_int) (de_int))) (dss_cons (ds_for (passes_of rfl) rfl (di_rng (by rfl) T.z_range (de_var 1 (pv 1))) (dg_name 4 sc__law_numbers.nd rfl (.inl rfl) (.inl rfl)) (dss_cons (ds_app 3 (pv 3) (de_mod (de_intc (by rfl) T.z_int (de_var 0 (pv 0))) (de_var 2 (pv 2)))) <|
    dss_one (ds_set 0 sc__law_numbers.nd rfl (.inl rfl) (de_fdiv (de_intc (by rfl) T.z_int (de_var 0 (pv 0))) (de_var 2 (pv 2)))))) <|
    dss_one (ds_retV 3 (pv 3))) (dss_nil)) <|
    dss_cons (ds_for (passes_of rfl) rfl (di_rng (by rfl) T.z_range (de_var 1 (pv 1))) (dg_name 4 sc__law_numbers.nd rfl (.inl rfl) (.inl rfl)) (dss_cons (ds_set 5 sc__law_numbers.nd rfl (.inl rfl) (de_mod (de_intc (by rfl) T.z_int (de_add (de_add (de_mulI (de_var 0 (pv 0)) (de_int)) (de_mulI (de_var 4 (pv 4)) (de_int))) (de_int))) (de_int))) <|
    dss_cons (ds_set 5 sc__law_numbers.nd rfl (.inl rfl) (de_mod (de_intc (by rfl) T.z_int (de_add (de_add (de_add (de_mulI (de_var 5 (pv 5)) (de_var 5 (pv 5))) (de_mulI (de_var 5 (pv 5)) (de_int))) (de_mulI (de_var 4 (pv 4)) (de_int))) (de_int))) (de_int))) <|
    dss_one (ds_app 3 (pv 3) (de_mod (de_intc (by rfl) T.z_int (de_fdiv (de_var 5 (pv 5)) (de_int))) (de_var 2 (pv 2)))))) <|
    dss_one (ds_retV 3 (pv 3))
theorem ok__law_same (T : Top w K mg) : ∀ k : Nat, FnOk P w K mg base (L2.CX P w) (k + 1) T.a__law_same T.d__law_same ["told", "due"] (spD K mg 2 (F__law_same k))
  | 0 => fn_bad rfl
  | k + 1 => by
    have HG := ok__law_same T k
    exact fn_den T.f__law_same sc__law_same rfl fun cdv A outer s H E hr =>
    dss_cons (ds_if (dt_truth (de_isi "list" k_list (by rfl) T.z_isinstance bt_isi (de_var 1 (pv 1)) (by rfl) T.z_list bt_list)) (dss_one (ds_if (dw_pt (dw_or (dt_not (dt_truth (de_isi "list" k_list (by rfl) T.z_isinstance bt_isi (de_var 0 (pv 0)) (by rfl) T.z_list bt_list))) (dw_or1 (dt_ne (un_of hr) (de_len (by rfl) T.z_len (de_var 0 (pv 0))) (de_len (by rfl) T.z_len (de_var 1 (pv 1))))))) (dss_one (ds_ret (de_bl))) (dss_nil))) (dss_one (ds_if (dt_truth (de_isi "tuple" k_tuple (by rfl) T.z_isinstance bt_isi (de_var 1 (pv 1)) (by rfl) T.z_tuple bt_tuple)) (dss_one (ds_if (dw_pt (dw_or (dt_not (dt_truth (de_isi "tuple" k_tuple (by rfl) T.z_isinstance bt_isi (de_var 0 (pv 0)) (by rfl) T.z_tuple bt_tuple))) (dw_or1 (dt_ne (un_of hr) (de_len (by rfl) T.z_len (de_var 0 (pv 0))) (de_len (by rfl) T.z_len (de_var 1 (pv 1))))))) (dss_one (ds_ret (de_bl))) (dss_nil))) (dss_one (ds_if (dt_isN (de_var 1 (pv 1))) (dss_one (ds_ret (de_isN (de_var 0 (pv 0))))) (dss_one (ds_if (dt_truth (de_isi "bool" k_bool (by rfl) T.z_isinstance bt_isi (de_var 1 (pv 1)) (by rfl) T.z_bool bt_bool)) (dss_one (ds_ret (de_and (de_isi "bool" k_bool (by rfl) T.z_isinstance bt_isi (de_var 0 (pv 0)) (by rfl) T.z_bool bt_bool) (de_one (de_eq (un_of hr) (de_var 0 (pv 0)) (de_var 1 (pv 1))))))) (dss_one (ds_if (dt_truth (de_isi "int" k_int (by rfl) T.z_isinstance bt_isi (de_var 1 (pv 1)) (by rfl) T.z_int bt_int)) (dss_one (ds_ret (de_and (de_isi "int" k_int (by rfl) T.z_isinstance bt_isi (de_var 0 (pv 0)) (by rfl) T.z_int bt_int) (de_and (de_not (de_isi "bool" k_bool (by rfl) T.z_isinstance bt_isi (de_var 0 (pv 0)) (by rfl) T.z_bool bt_bool)) (de_one (de_eq (un_of hr) (de_var 0 (pv 0)) (de_var 1 (pv 1)))))))) (dss_one (ds_ret (de_and (de_isi "str" k_str (by rfl) T.z_isinstance bt_isi (de_var 0 (pv 0)) (by rfl) T.z_str bt_str) (de_one (de_eq (un_of hr) (de_var 0 (pv 0)) (de_var 1 (pv 1)))))))))))))))) <|
    dss_cons (ds_for (passes_of rfl) rfl (di_rng (by rfl) T.z_range (de_len (by rfl) T.z_len (de_var 1 (pv 1)))) (dg_name 2 sc__law_same.nd rfl (.inl rfl) (.inl rfl)) (dss_one (ds_if (dt_not (dt_truth (de_call (HG) hr (by rfl) T.g__law_same T.f__law_same.kp T.b__law_same (takes_of rfl rfl rfl rfl) (da_cons (de_ix (de_var 0 (pv 0)) (de_var 2 (pv 2))) (da_cons (de_ix (de_var 1 (pv 1)) (de_var 2 (pv 2))) (da_nil)))))) (dss_one (ds_ret (de_bl))) (dss_nil)))) <|
    dss_one (ds_ret (de_bl))
theorem ok__law_is_path (T : Top w K mg) : FnOk P w K mg base (L2.CX P w) (0 + 1) T.a__law_is_path T.d__law_is_path ["text"] (spD K mg 1 F__law_is_path) :=
  fn_den T.f__law_is_path sc__law_is_path rfl fun cdv A outer s H E hr =>
    dss_cons (ds_if (dt_gt (de_len (by rfl) T.z_len (de_var 0 (pv 0))) (de_int)) (dss_one (ds_ret (de_bl))) (dss_nil)) <|
    dss_cons (ds_for (passes_of rfl) rfl (di_val (de_split (de_var 0 (pv 0)) (de_str [47]))) (dg_name 1 sc__law_is_path.nd rfl (.inl rfl) (.inl rfl)) (dss_one (ds_if (dw_pt (dw_or (dt_eq (un_of hr) (de_var 1 (pv 1)) (de_str [])) (dw_or1 (dt_gt (de_len (by rfl) T.z_len (de_lc (own := [("sign", 2)]) rfl sc__law_is_path.nd (blkOk_by (by show blkC N__law_is_path (defScope st__law_is_path) _ _ = true; decide +kernel)) (by decide) (di_val (de_var 1 (pv 1))) (fun _ _ _ _ _ => dg_name 2 sc__law_is_path.nd rfl (.inl rfl) (.inr rfl)) (fun _ _ _ _ _ => dts_one (dt_nin (de_var 2 (pv 2)) (de_str [97, 98, 99, 100, 101, 102, 103, 104, 105, 106, 107, 108, 109, 110, 111, 112, 113, 114, 115, 116, 117, 118, 119, 120, 121, 122, 48, 49, 50, 51, 52, 53, 54, 55, 56, 57, 46, 45]))) (fun _ _ _ _ _ => de_var 2 (pv 2)))) (de_int))))) (dss_one (ds_ret (de_bl))) (dss_nil)))) <|
    dss_one (ds_ret (de_bl))
theorem ok__law_is_glob (T : Top w K mg) : FnOk P w K mg base (L2.CX P w) (0 + 1) T.a__law_is_glob T.d__law_is_glob ["text"] (spD K mg 1 F__law_is_glob) :=
  fn_den T.f__law_is_glob sc__law_is_glob rfl fun cdv A outer s H E hr =>
    dss_cons (ds_for (passes_of rfl) rfl (di_val (de_split (de_var 0 (pv 0)) (de_str [47]))) (dg_name 1 sc__law_is_glob.nd rfl (.inl rfl) (.inl rfl)) (dss_cons (ds_setLc 2 (own := [("sign", 3)]) rfl sc__law_is_glob.nd rfl rfl (sw_true rfl rfl rfl rfl) (blkOk_by (by show blkC N__law_is_glob (defScope st__law_is_glob) _ _ = true; decide +kernel)) (by decide) (di_val (de_var 1 (pv 1))) (fun _ _ _ _ _ => dg_name 3 sc__law_is_glob.nd rfl (.inl rfl) (.inr rfl)) (fun _ _ _ _ _ => dts_one (dt_nin (de_var 3 (pv 3)) (de_str [97, 98, 99, 100, 101, 102, 103, 104, 105, 106, 107, 108, 109, 110, 111, 112, 113, 114, 115, 116, 117, 118, 119, 120, 121, 122, 48, 49, 50, 51, 52, 53, 54, 55, 56, 57, 46, 45, 42]))) (fun _ _ _ _ _ => de_var 3 (pv 3))) <|
    dss_one (ds_if (dw_pt (dw_and (dt_ne (un_of hr) (de_var 1 (pv 1)) (de_str [42, 42])) (dw_and1 (dw_pt (dw_or (dt_eq (un_of hr) (de_var 1 (pv 1)) (de_str [])) (dw_or (dt_gt (de_len (by rfl) T.z_len (de_var 2 (pv 2))) (de_int)) (dw_or1 (dt_inX (de_str [42, 42]) (de_var 1 (pv 1)))))))))) (dss_one (ds_ret (de_bl))) (dss_nil)))) <|
    dss_one (ds_ret (de_le (de_len (by rfl) T.z_len (de_var 0 (pv 0))) (de_int)))
theorem ok__law_set_drawn (T : Top w K mg) : ∀ k : Nat, FnOk P w K mg base (L2.CX P w) (k + 1) T.a__law_set_drawn T.d__law_set_drawn ["draws", "depth"] (spX K mg 1 (F__law_set_drawn k))
  | 0 => fn_badX rfl
  | k + 1 => by
    have HG := ok__law_set_drawn T k
    exact fn_denX T.f__law_set_drawn sc__law_set_drawn rfl (List.cons_ne_nil _ _) fun cdv A outer s H E hr =>
    xss_cons (xs_set 2 (by decide) sc__law_set_drawn.nd rfl (.inl rfl) (xe_lift (de_int))) <|
    xss_cons (xs_if (dt_gt (de_len (by rfl) T.z_len (de_var 0 (pv 0))) (de_int)) (xss_cons (xs_set 2 (by decide) sc__law_set_drawn.nd rfl (.inl rfl) (xe_pop (pv 0))) <|
    xss_nil) (xss_nil)) <|
    xss_cons (xs_if (dw_pt (dw_or (dt_eq (un_of hr) (de_var 1 (pv 1)) (de_int)) (dw_or1 (dt_eq (un_of hr) (de_mod (de_var 2 (pv 2)) (de_int)) (de_int))))) (xss_cons (xs_set 3 (by decide) sc__law_set_drawn.nd rfl (.inl rfl) (xe_lift (de_mod (de_fdiv (de_var 2 (pv 2)) (de_int)) (de_int)))) <|
    xss_cons (xs_if (dt_lt (de_var 3 (pv 3)) (de_int)) (xss_cons (xs_ret (xe_lift (de_tup (da_cons (de_ix (de_lst (da_cons (de_str [97, 108, 108]) (da_cons (de_str [116, 97, 114, 103, 101, 116, 115]) (da_cons (de_str [115, 111, 117, 114, 99, 101, 115]) (da_cons (de_str [109, 105, 115, 115, 105, 110, 103]) (da_cons (de_str [109, 97, 100, 101]) (da_cons (de_str [98, 97, 100]) (da_cons (de_str [108, 105, 115, 116, 115]) (da_nil))))))))) (de_var 3 (pv 3))) (da_nil))))) <|
    xss_nil) (xss_nil)) <|
    xss_cons (xs_if (dt_eq (un_of hr) (de_var 3 (pv 3)) (de_int)) (xss_cons (xs_ret (xe_lift (de_tup (da_cons (de_str [112, 97, 116, 104]) (da_cons (de_ix (de_lst (da_cons (de_str [97, 112, 112]) (da_cons (de_str [120, 46, 111]) (da_cons (de_str [113]) (da_cons (de_str [120, 46, 99]) (da_cons (de_str [101, 118, 101, 110, 46, 99]) (da_cons (de_str [122, 122]) (da_nil)))))))) (de_mod (de_fdiv (de_var 2 (pv 2)) (de_int)) (de_int))) (da_nil)))))) <|
    xss_nil) (xss_nil)) <|
    xss_cons (xs_ret (xe_lift (de_tup (da_cons (de_str [102, 105, 116, 115]) (da_cons (de_ix (de_lst (da_cons (de_str [42, 46, 111]) (da_cons (de_str [42, 42]) (da_cons (de_str [116, 47, 42]) (da_cons (de_str [42]) (da_cons (de_str [42, 42, 47, 97]) (da_cons (de_str [42, 46, 99]) (da_nil)))))))) (de_mod (de_fdiv (de_var 2 (pv 2)) (de_int)) (de_int))) (da_nil)))))) <|
    xss_nil) (xss_nil)) <|
    xss_cons (xs_if (dt_lt (de_mod (de_var 2 (pv 2)) (de_int)) (de_int)) (xss_cons (xs_ret (xe_tup (xa_cons (xe_lift (de_ix (de_lst (da_cons (de_str [110, 101, 101, 100, 115]) (da_cons (de_str [117, 115, 101, 114, 115]) (da_cons (de_str [98, 101, 104, 105, 110, 100]) (da_cons (de_str [97, 104, 101, 97, 100]) (da_nil)))))) (de_mod (de_fdiv (de_var 2 (pv 2)) (de_int)) (de_int)))) (xa_cons (xe_call (pv 0) (HG) hr (by rfl) T.g__law_set_drawn T.f__law_set_drawn.kp T.b__law_set_drawn (takes_of rfl rfl rfl rfl) (da_cons (de_sub (de_var 1 (pv 1)) (de_int)) (da_nil))) (xa_nil))))) <|
    xss_nil) (xss_nil)) <|
    xss_cons (xs_ret (xe_tup (xa_cons (xe_lift (de_ix (de_lst (da_cons (de_str [98, 111, 116, 104]) (da_cons (de_str [101, 105, 116, 104, 101, 114]) (da_cons (de_str [119, 105, 116, 104, 111, 117, 116]) (da_nil))))) (de_mod (de_fdiv (de_var 2 (pv 2)) (de_int)) (de_int)))) (xa_cons (xe_call (pv 0) (HG) hr (by rfl) T.g__law_set_drawn T.f__law_set_drawn.kp T.b__law_set_drawn (takes_of rfl rfl rfl rfl) (da_cons (de_sub (de_var 1 (pv 1)) (de_int)) (da_nil))) (xa_cons (xe_call (pv 0) (HG) hr (by rfl) T.g__law_set_drawn T.f__law_set_drawn.kp T.b__law_set_drawn (takes_of rfl rfl rfl rfl) (da_cons (de_sub (de_var 1 (pv 1)) (de_int)) (da_nil))) (xa_nil)))))) <|
    xss_nil
theorem ok__law_set_text (T : Top w K mg) : ∀ k : Nat, FnOk P w K mg base (L2.CX P w) (k + 1) T.a__law_set_text T.d__law_set_text ["question"] (spD K mg 1 (F__law_set_text k))
  | 0 => fn_bad rfl
  | k + 1 => by
    have HG := ok__law_set_text T k
    exact fn_den T.f__law_set_text sc__law_set_text rfl fun cdv A outer s H E hr =>
    dss_cons (ds_if (dt_eq (un_of hr) (de_len (by rfl) T.z_len (de_var 0 (pv 0))) (de_int)) (dss_one (ds_ret (de_add (de_add (de_add (de_add (de_add (de_add (de_str [40]) (de_call (HG) hr (by rfl) T.g__law_set_text T.f__law_set_text.kp T.b__law_set_text (takes_of rfl rfl rfl rfl) (da_cons (de_ix (de_var 0 (pv 0)) (de_int)) (da_nil)))) (de_str [32])) (de_ix (de_var 0 (pv 0)) (de_int))) (de_str [32])) (de_call (HG) hr (by rfl) T.g__law_set_text T.f__law_set_text.kp T.b__law_set_text (takes_of rfl rfl rfl rfl) (da_cons (de_ix (de_var 0 (pv 0)) (de_int)) (da_nil)))) (de_str [41])))) (dss_nil)) <|
    dss_cons (ds_if (dt_eq (un_of hr) (de_len (by rfl) T.z_len (de_var 0 (pv 0))) (de_int)) (dss_one (ds_ret (de_ix (de_var 0 (pv 0)) (de_int)))) (dss_nil)) <|
    dss_cons (ds_if (dt_truth (de_isi "str" k_str (by rfl) T.z_isinstance bt_isi (de_ix (de_var 0 (pv 0)) (de_int)) (by rfl) T.z_str bt_str)) (dss_one (ds_ret (de_add (de_add (de_ix (de_var 0 (pv 0)) (de_int)) (de_str [32])) (de_ix (de_var 0 (pv 0)) (de_int))))) (dss_nil)) <|
    dss_one (ds_ret (de_add (de_add (de_ix (de_var 0 (pv 0)) (de_int)) (de_str [32])) (de_call (HG) hr (by rfl) T.g__law_set_text T.f__law_set_text.kp T.b__law_set_text (takes_of rfl rfl rfl rfl) (da_cons (de_ix (de_var 0 (pv 0)) (de_int)) (da_nil)))))
theorem ok__law_question_text (T : Top w K mg) : FnOk P w K mg base (L2.CX P w) (201 + 1) T.a__law_question_text T.d__law_question_text ["question"] (spD K mg 1 F__law_question_text) :=
  fn_den T.f__law_question_text sc__law_question_text rfl fun cdv A outer s H E hr =>
    dss_cons (ds_if (dt_eq (un_of hr) (de_ix (de_var 0 (pv 0)) (de_int)) (de_str [115, 101, 116])) (dss_one (ds_ret (de_add (de_str [115, 101, 116, 32]) (de_call ((ok__law_set_text T 200).mono (by decide)) hr (by rfl) T.g__law_set_text T.f__law_set_text.kp T.b__law_set_text (takes_of rfl rfl rfl rfl) (da_cons (de_ix (de_var 0 (pv 0)) (de_int)) (da_nil)))))) (dss_nil)) <|
    dss_one (ds_ret (de_join (de_str [32]) (de_lc (own := [("part", 1)]) rfl sc__law_question_text.nd (blkOk_by (by show blkC N__law_question_text (defScope st__law_question_text) _ _ = true; decide +kernel)) (by decide) (di_val (de_var 0 (pv 0))) (fun _ _ _ _ _ => dg_name 1 sc__law_question_text.nd rfl (.inl rfl) (.inr rfl)) (fun _ _ _ _ _ => dts_nil) (fun _ _ _ _ _ => de_strA (by rfl) T.z_str (de_var 1 (pv 1))))))
theorem ok__law_question (T : Top w K mg) : FnOk P w K mg base (L2.CX P w) (7 + 1) T.a__law_question T.d__law_question ["draws"] (spX K mg 0 F__law_question) :=
  fn_denX T.f__law_question sc__law_question rfl (List.cons_ne_nil _ _) fun cdv A outer s H E hr =>
    xss_cons (xs_set 1 (by decide) sc__law_question.nd rfl (.inl rfl) (xe_lift (de_int))) <|
    xss_cons (xs_if (dt_gt (de_len (by rfl) T.z_len (de_var 0 (pv 0))) (de_int)) (xss_cons (xs_set 1 (by decide) sc__law_question.nd rfl (.inl rfl) (xe_pop (pv 0))) <|
    xss_nil) (xss_nil)) <|
    xss_cons (xs_set 2 (by decide) sc__law_question.nd rfl (.inl rfl) (xe_lift (de_lst (da_cons (de_str [97, 112, 112]) (da_cons (de_str [120, 46, 111]) (da_cons (de_str [113]) (da_cons (de_str [112]) (da_cons (de_str [97, 108, 108]) (da_cons (de_str [120, 46, 99]) (da_cons (de_str [117, 47, 98]) (da_cons (de_str [119]) (da_cons (de_str [116, 47, 97]) (da_cons (de_str [122, 122]) (da_nil)))))))))))))) <|
    xss_cons (xs_if (dt_eq (un_of hr) (de_mod (de_var 1 (pv 1)) (de_int)) (de_int)) (xss_cons (xs_ret (xe_tup (xa_cons (xe_lift (de_str [115, 101, 116])) (xa_cons (xe_call (pv 0) ((ok__law_set_drawn T 6).mono (by decide)) hr (by rfl) T.g__law_set_drawn T.f__law_set_drawn.kp T.b__law_set_drawn (takes_of rfl rfl rfl rfl) (da_cons (de_int) (da_nil))) (xa_nil))))) <|
    xss_nil) (xss_nil)) <|
    xss_cons (xs_set 3 (by decide) sc__law_question.nd rfl (.inl rfl) (xe_lift (de_ix (de_var 2 (pv 2)) (de_mod (de_fdiv (de_var 1 (pv 1)) (de_int)) (de_int))))) <|
    xss_cons (xs_set 4 (by decide) sc__law_question.nd rfl (.inl rfl) (xe_lift (de_ix (de_var 2 (pv 2)) (de_mod (de_fdiv (de_var 1 (pv 1)) (de_int)) (de_int))))) <|
    xss_cons (xs_if (dt_eq (un_of hr) (de_mod (de_var 1 (pv 1)) (de_int)) (de_int)) (xss_cons (xs_ret (xe_lift (de_tup (da_cons (de_str [119, 97, 121]) (da_cons (de_var 3 (pv 3)) (da_cons (de_var 4 (pv 4)) (da_nil))))))) <|
    xss_nil) (xss_nil)) <|
    xss_cons (xs_ret (xe_lift (de_tup (da_cons (de_ix (de_lst (da_cons (de_str [119, 97, 121, 115]) (da_cons (de_str [99, 111, 117, 110, 116]) (da_nil)))) (de_mod (de_var 1 (pv 1)) (de_int))) (da_cons (de_var 3 (pv 3)) (da_cons (de_var 4 (pv 4)) (da_cons (de_mod (de_fdiv (de_var 1 (pv 1)) (de_int)) (de_int)) (da_nil)))))))) <|
    xss_nil
theorem ok__law_read (T : Top w K mg) : FnOk P w K mg base (L2.CX P w) (227 + 1) T.a__law_read T.d__law_read ["string"] (spD K mg 1 F__law_read) :=
  fn_den T.f__law_read sc__law_read rfl fun cdv A outer s H E hr =>
    dss_one (ds_tryV (d0 := .non) (v0 := .non) 1 (fun _ => rfl) rfl rfl sc__law_read.nd rfl rfl T.k_InvalidQuestion (by rfl) (by decide) T.e_InvalidQuestion (takes_of rfl rfl rfl rfl) (fun W' pn xe tkW _ => dss_one (ds_ret (de_call ((ok_read_question T).mono (by decide)) hr (by rfl) T.g_read_question T.f_read_question.kp T.b_read_question tkW (da_cons (de_var 0 (pv 0)) (da_nil))))) (fun a oe pn h1 h2 h3 => suite_isiN T.i_InvalidQuestion List.mem_cons_self h1 h2 h3 T.y_InvalidQuestion T.n_InvalidQuestion (pv 1) (pv 1) (by rfl) T.m_BuildError (by rfl) T.m_InvalidText (by decide) (by decide) (by rfl) T.z_isinstance (by rfl) T.z_int rfl rfl rfl rfl))
theorem ok__law_set_part (T : Top w K mg) : ∀ k : Nat, FnOk P w K mg base (L2.CX P w) (k + 2) T.a__law_set_part T.d__law_set_part ["words", "at"] (spD K mg 2 (F__law_set_part k))
  | 0 => fn_bad rfl
  | k + 1 => by
    have HG := ok__law_set_part T k
    exact fn_den T.f__law_set_part sc__law_set_part rfl fun cdv A outer s H E hr =>
    dss_cons (ds_if (dt_ge (de_var 1 (pv 1)) (de_len (by rfl) T.z_len (de_var 0 (pv 0)))) (dss_one (ds_ret (de_non))) (dss_nil)) <|
    dss_cons (ds_set 2 sc__law_set_part.nd rfl (.inl rfl) (de_ix (de_var 0 (pv 0)) (de_var 1 (pv 1)))) <|
    dss_cons (ds_if (dt_in (de_var 2 (pv 2)) (de_lst (da_cons (de_str [97, 108, 108]) (da_cons (de_str [116, 97, 114, 103, 101, 116, 115]) (da_cons (de_str [115, 111, 117, 114, 99, 101, 115]) (da_cons (de_str [109, 105, 115, 115, 105, 110, 103]) (da_cons (de_str [109, 97, 100, 101]) (da_cons (de_str [98, 97, 100]) (da_cons (de_str [108, 105, 115, 116, 115]) (da_nil)))))))))) (dss_one (ds_ret (de_tup (da_cons (de_tup (da_cons (de_var 2 (pv 2)) (da_nil))) (da_cons (de_add (de_var 1 (pv 1)) (de_int)) (da_nil)))))) (dss_nil)) <|
    dss_cons (ds_if (dw_pt (dw_or (dt_eq (un_of hr) (de_var 2 (pv 2)) (de_str [112, 97, 116, 104])) (dw_or1 (dt_eq (un_of hr) (de_var 2 (pv 2)) (de_str [102, 105, 116, 115]))))) (dss_cons (ds_if (dw_pt (dw_or (dt_ge (de_add (de_var 1 (pv 1)) (de_int)) (de_len (by rfl) T.z_len (de_var 0 (pv 0)))) (dw_or1 (dt_not (dt_truth (de_ix (de_lst (da_cons (de_call ((ok__law_is_path T).mono (by omega)) hr (by rfl) T.g__law_is_path T.f__law_is_path.kp T.b__law_is_path (takes_of rfl rfl rfl rfl) (da_cons (de_ix (de_var 0 (pv 0)) (de_add (de_var 1 (pv 1)) (de_int))) (da_nil))) (da_cons (de_call ((ok__law_is_glob T).mono (by omega)) hr (by rfl) T.g__law_is_glob T.f__law_is_glob.kp T.b__law_is_glob (takes_of rfl rfl rfl rfl) (da_cons (de_ix (de_var 0 (pv 0)) (de_add (de_var 1 (pv 1)) (de_int))) (da_nil))) (da_nil)))) (de_intc (by rfl) T.z_int (de_eq (un_of hr) (de_var 2 (pv 2)) (de_str [102, 105, 116, 115]))))))))) (dss_one (ds_ret (de_non))) (dss_nil)) <|
    dss_one (ds_ret (de_tup (da_cons (de_tup (da_cons (de_var 2 (pv 2)) (da_cons (de_ix (de_var 0 (pv 0)) (de_add (de_var 1 (pv 1)) (de_int))) (da_nil)))) (da_cons (de_add (de_var 1 (pv 1)) (de_int)) (da_nil)))))) (dss_nil)) <|
    dss_cons (ds_if (dt_in (de_var 2 (pv 2)) (de_lst (da_cons (de_str [110, 101, 101, 100, 115]) (da_cons (de_str [117, 115, 101, 114, 115]) (da_cons (de_str [98, 101, 104, 105, 110, 100]) (da_cons (de_str [97, 104, 101, 97, 100]) (da_nil))))))) (dss_cons (ds_set 3 sc__law_set_part.nd rfl (.inl rfl) (de_call (HG) hr (by rfl) T.g__law_set_part T.f__law_set_part.kp T.b__law_set_part (takes_of rfl rfl rfl rfl) (da_cons (de_var 0 (pv 0)) (da_cons (de_add (de_var 1 (pv 1)) (de_int)) (da_nil))))) <|
    dss_cons (ds_if (dt_isN (de_var 3 (pv 3))) (dss_one (ds_ret (de_non))) (dss_nil)) <|
    dss_one (ds_ret (de_tup (da_cons (de_tup (da_cons (de_var 2 (pv 2)) (da_cons (de_ix (de_var 3 (pv 3)) (de_int)) (da_nil)))) (da_cons (de_ix (de_var 3 (pv 3)) (de_int)) (da_nil)))))) (dss_nil)) <|
    dss_cons (ds_if (dt_ne (un_of hr) (de_var 2 (pv 2)) (de_str [40])) (dss_one (ds_ret (de_non))) (dss_nil)) <|
    dss_cons (ds_set 4 sc__law_set_part.nd rfl (.inl rfl) (de_call (HG) hr (by rfl) T.g__law_set_part T.f__law_set_part.kp T.b__law_set_part (takes_of rfl rfl rfl rfl) (da_cons (de_var 0 (pv 0)) (da_cons (de_add (de_var 1 (pv 1)) (de_int)) (da_nil))))) <|
    dss_cons (ds_if (dw_pt (dw_or (dt_isN (de_var 4 (pv 4))) (dw_or (dt_ge (de_ix (de_var 4 (pv 4)) (de_int)) (de_len (by rfl) T.z_len (de_var 0 (pv 0)))) (dw_or1 (dt_nin (de_ix (de_var 0 (pv 0)) (de_ix (de_var 4 (pv 4)) (de_int))) (de_lst (da_cons (de_str [98, 111, 116, 104]) (da_cons (de_str [101, 105, 116, 104, 101, 114]) (da_cons (de_str [119, 105, 116, 104, 111, 117, 116]) (da_nil)))))))))) (dss_one (ds_ret (de_non))) (dss_nil)) <|
    dss_cons (ds_set 5 sc__law_set_part.nd rfl (.inl rfl) (de_call (HG) hr (by rfl) T.g__law_set_part T.f__law_set_part.kp T.b__law_set_part (takes_of rfl rfl rfl rfl) (da_cons (de_var 0 (pv 0)) (da_cons (de_add (de_ix (de_var 4 (pv 4)) (de_int)) (de_int)) (da_nil))))) <|
    dss_cons (ds_if (dw_pt (dw_or (dt_isN (de_var 5 (pv 5))) (dw_or (dt_ge (de_ix (de_var 5 (pv 5)) (de_int)) (de_len (by rfl) T.z_len (de_var 0 (pv 0)))) (dw_or1 (dt_ne (un_of hr) (de_ix (de_var 0 (pv 0)) (de_ix (de_var 5 (pv 5)) (de_int))) (de_str [41])))))) (dss_one (ds_ret (de_non))) (dss_nil)) <|
    dss_one (ds_ret (de_tup (da_cons (de_tup (da_cons (de_ix (de_var 0 (pv 0)) (de_ix (de_var 4 (pv 4)) (de_int))) (da_cons (de_ix (de_var 4 (pv 4)) (de_int)) (da_cons (de_ix (de_var 5 (pv 5)) (de_int)) (da_nil))))) (da_cons (de_add (de_ix (de_var 5 (pv 5)) (de_int)) (de_int)) (da_nil)))))
theorem ok__law_due (T : Top w K mg) : FnOk P w K mg base (L2.CX P w) (202 + 1) T.a__law_due T.d__law_due ["string"] (spD K mg 1 F__law_due) :=
  fn_denT T.f__law_due sc__law_due rfl (by decide +kernel) (by decide) fun cdv A outer s H E hr =>
    by
    refine dsst_cons ?_ ?_
    · refine @dst_of _ _ _ _ ?_
      exact ds_set 1 sc__law_due.nd rfl (.inl rfl) (de_split (de_var 0 (pv 0)) (de_str [32]))
    refine dsst_cons ?_ ?_
    · refine @dst_of _ _ _ _ ?_
      exact ds_if (dt_gt (de_len (by rfl) T.z_len (de_var 0 (pv 0))) (de_int)) (dss_one (ds_ret (de_non))) (dss_nil)
    refine dsst_cons ?_ ?_
    · exact dst_if (dt_eq (un_of hr) (de_ix (de_var 1 (pv 1)) (de_int)) (de_str [115, 101, 116])) (by
        refine dsst_cons ?_ ?_
        · exact dst_set 2 sc__law_due.nd rfl (.inl rfl) (det_split (det_repl [41] [32, 41] (det_repl [40] [40, 32] (det_of (de_slice (de_var 0 (pv 0)) (do_some (de_int)) (do_none))))) (de_str [32]))
        refine dsst_cons ?_ ?_
        · refine @dst_of _ _ _ _ ?_
          exact ds_set 3 sc__law_due.nd rfl (.inl rfl) (de_call ((ok__law_set_part T 200).mono (by decide)) hr (by rfl) T.g__law_set_part T.f__law_set_part.kp T.b__law_set_part (takes_of rfl rfl rfl rfl) (da_cons (de_var 2 (pv 2)) (da_cons (de_int) (da_nil))))
        refine dsst_cons ?_ ?_
        · refine @dst_of _ _ _ _ ?_
          exact ds_if (dw_pt (dw_or (dt_isN (de_var 3 (pv 3))) (dw_or (dt_ne (un_of hr) (de_ix (de_var 3 (pv 3)) (de_int)) (de_len (by rfl) T.z_len (de_var 2 (pv 2)))) (dw_or1 (dt_ne (un_of hr) (de_add (de_str [115, 101, 116, 32]) (de_call ((ok__law_set_text T 200).mono (by decide)) hr (by rfl) T.g__law_set_text T.f__law_set_text.kp T.b__law_set_text (takes_of rfl rfl rfl rfl) (da_cons (de_ix (de_var 3 (pv 3)) (de_int)) (da_nil)))) (de_var 0 (pv 0))))))) (dss_one (ds_ret (de_non))) (dss_nil)
        refine dsst_cons ?_ ?_
        · exact dst_ret (det_of (de_tup (da_cons (de_str [115, 101, 116]) (da_cons (de_ix (de_var 3 (pv 3)) (de_int)) (da_nil)))))
        exact dsst_of dss_nil) (by
        exact dsst_of dss_nil)
    refine dsst_cons ?_ ?_
    · refine @dst_of _ _ _ _ ?_
      exact ds_if (dw_pt (dw_or (dt_nin (de_ix (de_var 1 (pv 1)) (de_int)) (de_lst (da_cons (de_str [119, 97, 121]) (da_cons (de_str [119, 97, 121, 115]) (da_cons (de_str [99, 111, 117, 110, 116]) (da_nil)))))) (dw_or (dt_ne (un_of hr) (de_len (by rfl) T.z_len (de_var 1 (pv 1))) (de_add (de_int) (de_intc (by rfl) T.z_int (de_ne (un_of hr) (de_ix (de_var 1 (pv 1)) (de_int)) (de_str [119, 97, 121]))))) (dw_or (dt_not (dt_truth (de_call ((ok__law_is_path T).mono (by decide)) hr (by rfl) T.g__law_is_path T.f__law_is_path.kp T.b__law_is_path (takes_of rfl rfl rfl rfl) (da_cons (de_ix (de_var 1 (pv 1)) (de_int)) (da_nil))))) (dw_or1 (dt_not (dt_truth (de_call ((ok__law_is_path T).mono (by decide)) hr (by rfl) T.g__law_is_path T.f__law_is_path.kp T.b__law_is_path (takes_of rfl rfl rfl rfl) (da_cons (de_ix (de_var 1 (pv 1)) (de_int)) (da_nil)))))))))) (dss_one (ds_ret (de_non))) (dss_nil)
    refine dsst_cons ?_ ?_
    · refine @dst_of _ _ _ _ ?_
      exact ds_if (dt_eq (un_of hr) (de_ix (de_var 1 (pv 1)) (de_int)) (de_str [119, 97, 121])) (dss_one (ds_ret (de_tup (da_cons (de_str [119, 97, 121]) (da_cons (de_ix (de_var 1 (pv 1)) (de_int)) (da_cons (de_ix (de_var 1 (pv 1)) (de_int)) (da_nil))))))) (dss_nil)
    refine dsst_cons ?_ ?_
    · refine @dst_of _ _ _ _ ?_
      exact ds_if (dt_nin (de_ix (de_var 1 (pv 1)) (de_int)) (de_lc (own := [("k", 4)]) rfl sc__law_due.nd (blkOk_by (by show blkC N__law_due (defScope st__law_due) _ _ = true; decide +kernel)) (by decide) (di_rng (by rfl) T.z_range (de_int)) (fun _ _ _ _ _ => dg_name 4 sc__law_due.nd rfl (.inl rfl) (.inr rfl)) (fun _ _ _ _ _ => dts_nil) (fun _ _ _ _ _ => de_strA (by rfl) T.z_str (de_var 4 (pv 4))))) (dss_one (ds_ret (de_non))) (dss_nil)
    refine dsst_cons ?_ ?_
    · exact dst_ret (det_of (de_tup (da_cons (de_ix (de_var 1 (pv 1)) (de_int)) (da_cons (de_ix (de_var 1 (pv 1)) (de_int)) (da_cons (de_ix (de_var 1 (pv 1)) (de_int)) (da_cons (de_ints (by rfl) T.z_int (de_ix (de_var 1 (pv 1)) (de_int))) (da_nil)))))))
    exact dsst_of dss_nil
theorem ok__law_bent (T : Top w K mg) : FnOk P w K mg base (L2.CX P w) (0 + 1) T.a__law_bent T.d__law_bent ["text", "draws"] (spD K mg 2 F__law_bent) :=
  fn_denT T.f__law_bent sc__law_bent rfl (by decide +kernel) (by decide) fun cdv A outer s H E hr =>
    by
    refine dsst_cons ?_ ?_
    · refine @dst_of _ _ _ _ ?_
      exact ds_set 2 sc__law_bent.nd rfl (.inl rfl) (de_str [97, 98, 99, 112, 32, 40, 41, 47, 42, 46, 48, 49, 57])
    refine dsst_cons ?_ ?_
    · refine @dst_of _ _ _ _ ?_
      exact ds_set 3 sc__law_bent.nd rfl (.inl rfl) (de_mod (de_ix (de_var 1 (pv 1)) (de_int)) (de_len (by rfl) T.z_len (de_var 0 (pv 0))))
    refine dsst_cons ?_ ?_
    · refine @dst_of _ _ _ _ ?_
      exact ds_set 4 sc__law_bent.nd rfl (.inl rfl) (de_ix (de_var 2 (pv 2)) (de_mod (de_ix (de_var 1 (pv 1)) (de_int)) (de_int)))
    refine dsst_cons ?_ ?_
    · refine @dst_of _ _ _ _ ?_
      exact ds_set 5 sc__law_bent.nd rfl (.inl rfl) (de_split (de_var 0 (pv 0)) (de_str [32]))
    refine dsst_cons ?_ ?_
    · refine @dst_of _ _ _ _ ?_
      exact ds_set 6 sc__law_bent.nd rfl (.inl rfl) (de_mod (de_ix (de_var 1 (pv 1)) (de_int)) (de_len (by rfl) T.z_len (de_var 5 (pv 5))))
    refine dsst_cons ?_ ?_
    · exact dst_set 7 sc__law_bent.nd rfl (.inl rfl) (det_of (de_lst (da_cons (de_add (de_slice (de_var 0 (pv 0)) (do_some (de_int)) (do_some (de_var 3 (pv 3)))) (de_slice (de_var 0 (pv 0)) (do_some (de_add (de_var 3 (pv 3)) (de_int))) (do_none))) (da_cons (de_add (de_add (de_slice (de_var 0 (pv 0)) (do_some (de_int)) (do_some (de_var 3 (pv 3)))) (de_var 4 (pv 4))) (de_slice (de_var 0 (pv 0)) (do_some (de_var 3 (pv 3))) (do_none))) (da_cons (de_add (de_add (de_slice (de_var 0 (pv 0)) (do_some (de_int)) (do_some (de_var 3 (pv 3)))) (de_var 4 (pv 4))) (de_slice (de_var 0 (pv 0)) (do_some (de_add (de_var 3 (pv 3)) (de_int))) (do_none))) (da_consC [32] (de_var 0 (pv 0)) (dat_cons (det_of (de_add (de_str [32]) (de_var 0 (pv 0)))) (dat_cons (det_of (de_slice (de_var 0 (pv 0)) (do_some (de_int)) (do_some (de_var 3 (pv 3))))) (dat_cons (det_of (de_add (de_var 0 (pv 0)) (de_var 0 (pv 0)))) (dat_cons (det_rep1 32 [32, 32] (de_var 0 (pv 0))) (dat_nil)))))))))))
    refine dsst_cons ?_ ?_
    · refine @dst_of _ _ _ _ ?_
      exact ds_set 8 sc__law_bent.nd rfl (.inl rfl) (de_ix (de_lst (da_cons (de_str [97, 108, 108]) (da_cons (de_str [112, 97, 116, 104]) (da_cons (de_str [49, 50]) (da_cons (de_str [49, 51]) (da_cons (de_str [48, 49, 50]) (da_cons (de_str [98, 111, 116, 104]) (da_cons (de_str []) (da_cons (de_str [110, 101, 101, 100, 115]) (da_cons (de_str [40, 97, 108, 108]) (da_cons (de_str [102, 105, 116, 115, 32, 42, 42]) (da_cons (de_str [119, 97, 121]) (da_nil))))))))))))) (de_mod (de_fdiv (de_ix (de_var 1 (pv 1)) (de_int)) (de_int)) (de_int)))
    refine dsst_cons ?_ ?_
    · exact dst_ret (det_of (de_add (de_var 7 (pv 7)) (de_lst (da_cons (de_join (de_str [32]) (de_add (de_slice (de_var 5 (pv 5)) (do_some (de_int)) (do_some (de_var 6 (pv 6)))) (de_slice (de_var 5 (pv 5)) (do_some (de_add (de_var 6 (pv 6)) (de_int))) (do_none)))) (da_cons (de_join (de_str [32]) (de_add (de_add (de_slice (de_var 5 (pv 5)) (do_some (de_int)) (do_some (de_var 6 (pv 6)))) (de_lst (da_cons (de_var 8 (pv 8)) (da_nil)))) (de_slice (de_var 5 (pv 5)) (do_some (de_var 6 (pv 6))) (do_none)))) (da_cons (de_join (de_str [32]) (de_add (de_add (de_slice (de_var 5 (pv 5)) (do_some (de_int)) (do_some (de_var 6 (pv 6)))) (de_lst (da_cons (de_var 8 (pv 8)) (da_nil)))) (de_slice (de_var 5 (pv 5)) (do_some (de_add (de_var 6 (pv 6)) (de_int))) (do_none)))) (da_cons (de_str []) (da_cons (de_add (de_var 0 (pv 0)) (de_str [41])) (da_nil)))))))))
    exact dsst_of dss_nil
theorem ok_law (T : Top w K mg) : FnOk P w K mg base (L2.CX P w) (228 + 1) T.a_law T.d_law ["script"] (spD K mg 1 F_law) :=
  fn_den T.f_law sc_law rfl fun cdv A outer s H E hr =>
    dss_cons (ds_set 1 sc_law.nd rfl (.inl rfl) (de_call ((ok__law_numbers T).mono (by decide)) hr (by rfl) T.g__law_numbers T.f__law_numbers.kp T.b__law_numbers (takes_of rfl rfl rfl rfl) (da_cons (de_call ((ok__law_cell T).mono (by decide)) hr (by rfl) T.g__law_cell T.f__law_cell.kp T.b__law_cell (takes_of rfl rfl rfl rfl) (da_cons (de_var 0 (pv 0)) (da_cons (de_int) (da_nil)))) (da_cons (de_int) (da_cons (de_int) (da_nil)))))) <|
    dss_cons (ds_set 2 sc_law.nd rfl (.inl rfl) (de_slice (de_var 1 (pv 1)) (do_some (de_int)) (do_none))) <|
    dss_cons (ds_for (passes_of rfl) rfl (di_rng (by rfl) T.z_range (de_int)) (dg_name 3 sc_law.nd rfl (.inl rfl) (.inl rfl)) (dss_cons (ds_setX 4 xApp_own sc_law.nd rfl (.inl rfl) (xe_call (pv 2) ((ok__law_question T).mono (by decide)) hr (by rfl) T.g__law_question T.f__law_question.kp T.b__law_question (takes_of rfl rfl rfl rfl) (da_nil))) <|
    dss_cons (ds_set 5 sc_law.nd rfl (.inl rfl) (de_call ((ok__law_question_text T).mono (by decide)) hr (by rfl) T.g__law_question_text T.f__law_question_text.kp T.b__law_question_text (takes_of rfl rfl rfl rfl) (da_cons (de_var 4 (pv 4)) (da_nil)))) <|
    dss_cons (ds_if (dt_not (dt_truth (de_call ((ok__law_same T 200).mono (by decide)) hr (by rfl) T.g__law_same T.f__law_same.kp T.b__law_same (takes_of rfl rfl rfl rfl) (da_cons (de_lst (da_cons (de_call ((ok_write_question T).mono (by decide)) hr (by rfl) T.g_write_question T.f_write_question.kp T.b_write_question (takes_of rfl rfl rfl rfl) (da_cons (de_var 4 (pv 4)) (da_nil))) (da_cons (de_call ((ok__law_read T).mono (by decide)) hr (by rfl) T.g__law_read T.f__law_read.kp T.b__law_read (takes_of rfl rfl rfl rfl) (da_cons (de_var 5 (pv 5)) (da_nil))) (da_nil)))) (da_cons (de_lst (da_cons (de_var 5 (pv 5)) (da_cons (de_ix (de_lst (da_cons (de_var 4 (pv 4)) (da_cons (de_non) (da_nil)))) (de_intc (by rfl) T.z_int (de_gt (de_len (by rfl) T.z_len (de_var 5 (pv 5))) (de_int)))) (da_nil)))) (da_nil)))))) (dss_one (ds_ret (de_bl))) (dss_nil)) <|
    dss_one (ds_for (passes_of rfl) rfl (di_rng (by rfl) T.z_range (de_int)) (dg_name 6 sc_law.nd rfl (.inl rfl) (.inl rfl)) (dss_one (ds_for (passes_of rfl) rfl (di_val (de_call ((ok__law_bent T).mono (by decide)) hr (by rfl) T.g__law_bent T.f__law_bent.kp T.b__law_bent (takes_of rfl rfl rfl rfl) (da_cons (de_var 5 (pv 5)) (da_cons (de_slice (de_var 1 (pv 1)) (do_some (de_add (de_mulI (de_int) (de_var 3 (pv 3))) (de_mulI (de_int) (de_var 6 (pv 6))))) (do_none)) (da_nil))))) (dg_name 7 sc_law.nd rfl (.inl rfl) (.inl rfl)) (dss_one (ds_if (dt_not (dt_truth (de_call ((ok__law_same T 200).mono (by decide)) hr (by rfl) T.g__law_same T.f__law_same.kp T.b__law_same (takes_of rfl rfl rfl rfl) (da_cons (de_call ((ok__law_read T).mono (by decide)) hr (by rfl) T.g__law_read T.f__law_read.kp T.b__law_read (takes_of rfl rfl rfl rfl) (da_cons (de_var 7 (pv 7)) (da_nil))) (da_cons (de_call ((ok__law_due T).mono (by decide)) hr (by rfl) T.g__law_due T.f__law_due.kp T.b__law_due (takes_of rfl rfl rfl rfl) (da_cons (de_var 7 (pv 7)) (da_nil))) (da_nil)))))) (dss_one (ds_ret (de_bl))) (dss_nil)))))))) <|
    dss_cons (ds_set 8 sc_law.nd rfl (.inl rfl) (de_lst (da_cons (de_add (de_add (de_str [115, 101, 116, 32]) (de_mulS (de_str [110, 101, 101, 100, 115, 32]) (de_int))) (de_str [97, 108, 108])) (da_cons (de_add (de_add (de_str [115, 101, 116, 32]) (de_mulS (de_str [110, 101, 101, 100, 115, 32]) (de_int))) (de_str [97, 108, 108])) (da_cons (de_str [115, 101, 116, 32, 112, 97, 116, 104, 32, 97, 47, 47, 98]) (da_cons (de_str [115, 101, 116, 32, 102, 105, 116, 115, 32, 42, 42, 42]) (da_cons (de_str [115, 101, 116, 32, 102, 105, 116, 115, 32, 97, 47, 42, 42, 47, 98]) (da_cons (de_str [115, 101, 116, 32, 40, 97, 108, 108, 32, 98, 111, 116, 104, 32, 97, 108, 108]) (da_nil))))))))) <|
    dss_cons (ds_for (passes_of rfl) rfl (di_val (de_add (de_var 8 (pv 8)) (de_lst (da_cons (de_str [115, 101, 116, 32, 40, 40, 97, 108, 108, 32, 98, 111, 116, 104, 32, 97, 108, 108, 41, 32, 101, 105, 116, 104, 101, 114, 32, 97, 108, 108, 41]) (da_cons (de_str [119, 97, 121, 32, 97, 32, 98, 32, 99]) (da_cons (de_str [99, 111, 117, 110, 116, 32, 97, 32, 98, 32, 49, 50]) (da_nil))))))) (dg_name 7 sc_law.nd rfl (.inl rfl) (.inl rfl)) (dss_one (ds_if (dt_not (dt_truth (de_call ((ok__law_same T 200).mono (by decide)) hr (by rfl) T.g__law_same T.f__law_same.kp T.b__law_same (takes_of rfl rfl rfl rfl) (da_cons (de_call ((ok__law_read T).mono (by decide)) hr (by rfl) T.g__law_read T.f__law_read.kp T.b__law_read (takes_of rfl rfl rfl rfl) (da_cons (de_var 7 (pv 7)) (da_nil))) (da_cons (de_call ((ok__law_due T).mono (by decide)) hr (by rfl) T.g__law_due T.f__law_due.kp T.b__law_due (takes_of rfl rfl rfl rfl) (da_cons (de_var 7 (pv 7)) (da_nil))) (da_nil)))))) (dss_one (ds_ret (de_bl))) (dss_nil)))) <|
    dss_one (ds_ret (de_bl))
end
end PL
set_option Elab.async false
set_option linter.all false
set_option maxRecDepth 100000
set_option maxHeartbeats 4000000
/-! Na81: set questions as texts: two readers, plain. -/
namespace PL
open PySem PySem.Spec L2

def sep (c : Nat) : Bool := c == 32 || c == 40 || c == 41
def cnt (x : List Nat) : Nat := x.countP sep
def tok (r : List Nat) : List Nat := r.takeWhile fun c => !sep c
def rst (r : List Nat) : List Nat := r.dropWhile fun c => !sep c
def eat (c : Nat) : List Nat → Option (List Nat)
  | [] => none
  | d :: r => if d = c then some r else none
/-! words without a separator -/
def free (w : List Nat) : Bool := w.all fun c => !sep c
def edge (r : List Nat) : Prop := r = [] ∨ ∃ c s, r = c :: s ∧ sep c = true
theorem tok_rst (r : List Nat) : tok r ++ rst r = r := List.takeWhile_append_dropWhile ..
theorem tok_free (r : List Nat) : free (tok r) = true := by
  unfold free tok
  rw [List.all_eq_true]
  intro c hc
  induction r with
  | nil => cases hc
  | cons d s ih =>
    rw [List.takeWhile_cons] at hc
    cases e : sep d with
    | true => rw [e] at hc; cases hc
    | false =>
      rw [e] at hc
      rcases List.mem_cons.mp hc with z | z
      · rw [z, e]; rfl
      · exact ih z
theorem tok_app {w r : List Nat} (h : free w = true) (he : edge r) : tok (w ++ r) = w ∧ rst (w ++ r) = r := by
  induction w with
  | nil =>
    rcases he with e | ⟨c, s, e, hc⟩
    · subst e; exact ⟨rfl, rfl⟩
    · subst e
      unfold tok rst
      rw [List.nil_append, List.takeWhile_cons, List.dropWhile_cons, hc]
      exact ⟨rfl, rfl⟩
  | cons d s ih =>
    unfold free at h
    rw [List.all_cons, Bool.and_eq_true] at h
    obtain ⟨i1, i2⟩ := ih h.2
    unfold tok rst at *
    rw [List.cons_append, List.takeWhile_cons, List.dropWhile_cons, h.1]
    exact ⟨congrArg (d :: ·) i1, i2⟩
theorem eat_some {c : Nat} {r s : List Nat} (h : eat c r = some s) : r = c :: s := by
  cases r with
  | nil => cases h
  | cons d t =>
    have h : (if d = c then some t else none) = some s := h
    by_cases e : d = c
    · rw [if_pos e] at h; rw [e, Option.some.inj h]
    · rw [if_neg e] at h; cases h
theorem eat_hit (c : Nat) (r : List Nat) : eat c (c :: r) = some r := if_pos rfl
theorem eat_word {c : Nat} {w r : List Nat} (h : free w = true) (h0 : w ≠ []) (hc : sep c = true) : eat c (w ++ r) = none := by
  cases w with
  | nil => exact absurd rfl h0
  | cons d s =>
    unfold free at h
    rw [List.all_cons, Bool.and_eq_true] at h
    exact if_neg fun e => by rw [e, hc] at h; exact absurd h.1 Bool.false_ne_true

/-! paths and globs -/
def isPath (x : List Nat) : Bool := decide (x.length ≤ 60) && (TL.spl [47] 0 [] x).all fun p => p != [] && p.all fun c => SIGNS.contains c
  where SIGNS : List Nat := [97, 98, 99, 100, 101, 102, 103, 104, 105, 106, 107, 108, 109, 110, 111, 112, 113, 114, 115, 116, 117, 118, 119, 120, 121, 122, 48, 49, 50, 51, 52, 53, 54, 55, 56, 57, 46, 45]
abbrev SIGNS := isPath.SIGNS
def isGlob (x : List Nat) : Bool := decide (x.length ≤ 60) && (TL.spl [47] 0 [] x).all fun p => p == [42, 42] || (p != [] && p.all (fun c => (SIGNS ++ [42]).contains c) && !subS [42, 42] p)
theorem spl_mem {s c : Nat} : ∀ (x acc : List Nat), c ∈ x ∨ c ∈ acc → c = s ∨ ∃ p ∈ TL.spl [s] 0 acc x, c ∈ p
  | [], acc, h => by
    rw [TL.spl_nil]
    exact .inr ⟨acc, List.mem_singleton.mpr rfl, h.resolve_left fun z => by cases z⟩
  | d :: r, acc, h => by
    have p1 : TL.pre [s] (d :: r) = (d == s) := by
      show ([d] == [s]) = (d == s)
      rw [Bool.eq_iff_iff, beq_iff_eq, beq_iff_eq]
      exact ⟨fun h => (List.cons.inj h).1, fun h => by rw [h]⟩
    by_cases e : d = s
    · rw [TL.spl_hit (by rw [p1]; exact beq_iff_eq.mpr e)]
      rcases h with h | h
      · rcases List.mem_cons.mp h with z | z
        · exact .inl (z.trans e)
        · rcases spl_mem r [] (.inl z) with q | ⟨p, hp, hc⟩
          · exact .inl q
          · exact .inr ⟨p, List.mem_cons_of_mem _ hp, hc⟩
      · exact .inr ⟨acc, List.mem_cons_self, h⟩
    · rw [TL.spl_miss (by rw [p1]; exact beq_false_of_ne e)]
      refine spl_mem r (acc ++ [d]) ?_
      rcases h with h | h
      · rcases List.mem_cons.mp h with z | z
        · exact .inr (List.mem_append_right _ (List.mem_singleton.mpr z))
        · exact .inl z
      · exact .inr (List.mem_append_left _ h)
theorem signs_free : (SIGNS ++ [42, 47]).all (fun c => !sep c) = true := by decide
theorem sign_free {c : Nat} (h : c ∈ SIGNS ++ [42, 47]) : (!sep c) = true := List.all_eq_true.mp signs_free c h
theorem isPath_free {x : List Nat} (h : isPath x = true) : free x = true := by
  unfold isPath at h
  rw [Bool.and_eq_true, List.all_eq_true] at h
  refine List.all_eq_true.mpr fun c hc => ?_
  rcases spl_mem x [] (.inl hc) (s := 47) with e | ⟨p, hp, hm⟩
  · rw [e]; rfl
  · have := h.2 p hp
    rw [Bool.and_eq_true, List.all_eq_true] at this
    exact sign_free (List.mem_append_left _ (List.contains_iff_mem.mp (this.2 c hm)))
theorem isGlob_free {x : List Nat} (h : isGlob x = true) : free x = true := by
  unfold isGlob at h
  rw [Bool.and_eq_true, List.all_eq_true] at h
  refine List.all_eq_true.mpr fun c hc => ?_
  rcases spl_mem x [] (.inl hc) (s := 47) with e | ⟨p, hp, hm⟩
  · rw [e]; rfl
  · have := h.2 p hp
    rw [Bool.or_eq_true] at this
    rcases this with z | z
    · rw [beq_iff_eq.mp z] at hm
      have : c = 42 := by simpa using hm
      rw [this]; rfl
    · rw [Bool.and_eq_true, Bool.and_eq_true, List.all_eq_true] at z
      have m := List.contains_iff_mem.mp (z.1.2 c hm)
      exact sign_free (by
        rcases List.mem_append.mp m with q | q
        · exact List.mem_append_left _ q
        · exact List.mem_append_right _ (by rw [List.mem_singleton.mp q]; exact List.mem_cons_self))

/-! set questions -/
inductive SQ where
  | one (w : List Nat) | nm (w x : List Nat) | led (w : List Nat) (q : SQ) | two (w : List Nat) (a b : SQ)
def PATH : List Nat := [112, 97, 116, 104]
def FITS : List Nat := [102, 105, 116, 115]
def good (w x : List Nat) : Bool := if w = PATH then isPath x else isGlob x
abbrev PLAIN := tup_PLAIN_SETS
abbrev LED := tup_LED_SETS
abbrev TWO := tup_TWO_SETS
def NAMED : List (List Nat) := [PATH, FITS]
def WF : SQ → Prop
  | .one w => w ∈ PLAIN
  | .nm w x => w ∈ NAMED ∧ good w x = true
  | .led w q => w ∈ LED ∧ WF q
  | .two w a b => w ∈ TWO ∧ WF a ∧ WF b
def txt : SQ → List Nat
  | .one w => w
  | .nm w x => w ++ 32 :: x
  | .led w q => w ++ 32 :: txt q
  | .two w a b => 40 :: (txt a ++ 32 :: (w ++ 32 :: (txt b ++ [41])))
def dep : SQ → Nat
  | .one _ => 1
  | .nm _ _ => 1
  | .led _ q => dep q + 1
  | .two _ a b => max (dep a) (dep b) + 1
theorem words_ok : (PLAIN ++ NAMED ++ LED ++ TWO).all (fun w => free w && w != []) = true := by decide
theorem word_ok {w : List Nat} (h : w ∈ PLAIN ++ NAMED ++ LED ++ TWO) : free w = true ∧ w ≠ [] := by
  have := List.all_eq_true.mp words_ok w h
  rw [Bool.and_eq_true] at this
  exact ⟨this.1, by simpa using this.2⟩
theorem mP {w : List Nat} (h : w ∈ PLAIN) : w ∈ PLAIN ++ NAMED ++ LED ++ TWO := List.mem_append_left _ (List.mem_append_left _ (List.mem_append_left _ h))
theorem mN {w : List Nat} (h : w ∈ NAMED) : w ∈ PLAIN ++ NAMED ++ LED ++ TWO := List.mem_append_left _ (List.mem_append_left _ (List.mem_append_right _ h))
theorem mL {w : List Nat} (h : w ∈ LED) : w ∈ PLAIN ++ NAMED ++ LED ++ TWO := List.mem_append_left _ (List.mem_append_right _ h)
theorem mT {w : List Nat} (h : w ∈ TWO) : w ∈ PLAIN ++ NAMED ++ LED ++ TWO := List.mem_append_right _ h
theorem apartN : NAMED.all (fun w => !PLAIN.contains w) = true := by decide
theorem apartL : LED.all (fun w => !PLAIN.contains w && !NAMED.contains w) = true := by decide
theorem NnP {w : List Nat} (h : w ∈ NAMED) : w ∉ PLAIN := fun m => by
  have := List.all_eq_true.mp apartN w h
  rw [List.contains_iff_mem.mpr m] at this; cases this
theorem LnP {w : List Nat} (h : w ∈ LED) : w ∉ PLAIN ∧ w ∉ NAMED := by
  have := List.all_eq_true.mp apartL w h
  rw [Bool.and_eq_true] at this
  exact ⟨(fun m => by rw [List.contains_iff_mem.mpr m] at this; cases this.1), (fun m => by rw [List.contains_iff_mem.mpr m] at this; cases this.2)⟩
theorem good_free {w x : List Nat} (h : good w x = true) : free x = true := by
  unfold good at h
  by_cases c : w = PATH
  · rw [if_pos c] at h; exact isPath_free h
  · rw [if_neg c] at h; exact isGlob_free h

/-! the program's reader, on what is left -/
def rd : Nat → List Nat → Option (SQ × List Nat)
  | 0, _ => none
  | n + 1, r => match eat 40 r with
    | some r1 => (rd n r1).bind fun p => (eat 32 p.2).bind fun r3 => if tok r3 ∈ TWO then (eat 32 (rst r3)).bind fun r4 => (rd n r4).bind fun q => (eat 41 q.2).bind fun r6 => some (.two (tok r3) p.1 q.1, r6) else none
    | none => if tok r ∈ PLAIN then some (.one (tok r), rst r) else (eat 32 (rst r)).bind fun r2 =>
        if tok r ∈ NAMED then (if good (tok r) (tok r2) = true then some (.nm (tok r) (tok r2), rst r2) else none)
        else if tok r ∈ LED then (rd n r2).bind fun q => some (.led (tok r) q.1, q.2) else none
theorem rd_sound : ∀ (n : Nat) {r r' : List Nat} {q : SQ}, rd n r = some (q, r') → WF q ∧ r = txt q ++ r'
  | 0, _, _, _, h => by cases h
  | n + 1, r, r', q, h => by
    unfold rd at h
    cases e : eat 40 r with
    | some r1 =>
      rw [e] at h
      obtain ⟨⟨a, r2⟩, h1, h⟩ := Option.bind_eq_some_iff.mp h
      obtain ⟨r3, h2, h⟩ := Option.bind_eq_some_iff.mp h
      split at h
      · rename_i hw
        obtain ⟨r4, h3, h⟩ := Option.bind_eq_some_iff.mp h
        obtain ⟨⟨b, r5⟩, h4, h⟩ := Option.bind_eq_some_iff.mp h
        obtain ⟨r6, h5, h⟩ := Option.bind_eq_some_iff.mp h
        cases h
        obtain ⟨w1, t1⟩ := rd_sound n h1
        obtain ⟨w2, t2⟩ := rd_sound n h4
        refine ⟨⟨hw, w1, w2⟩, ?_⟩
        have e2 : r2 = 32 :: r3 := eat_some h2
        have e5 : r5 = 41 :: r' := eat_some h5
        have e3 : r3 = tok r3 ++ 32 :: r4 := by rw [← eat_some h3]; exact (tok_rst r3).symm
        rw [eat_some e, t1, e2]
        show 40 :: (txt a ++ 32 :: r3) = 40 :: (txt a ++ 32 :: (tok r3 ++ 32 :: (txt b ++ [41]))) ++ r'
        conv => lhs; rw [e3, t2, e5]
        simp [List.append_assoc]
      · cases h
    | none =>
      rw [e] at h
      dsimp only at h
      split at h
      · rename_i hp
        cases h
        exact ⟨hp, (tok_rst r).symm⟩
      · obtain ⟨r2, h1, h⟩ := Option.bind_eq_some_iff.mp h
        have e1 : r = tok r ++ 32 :: r2 := by rw [← eat_some h1]; exact (tok_rst r).symm
        split at h
        · rename_i hn
          split at h
          · rename_i hg
            cases h
            refine ⟨⟨hn, hg⟩, ?_⟩
            conv => lhs; rw [e1, ← tok_rst r2]
            show _ = (tok r ++ 32 :: tok r2) ++ rst r2
            simp [List.append_assoc]
          · cases h
        · split at h
          · rename_i hl
            obtain ⟨⟨q1, r3⟩, h2, h⟩ := Option.bind_eq_some_iff.mp h
            cases h
            obtain ⟨w1, t1⟩ := rd_sound n h2
            refine ⟨⟨hl, w1⟩, ?_⟩
            conv => lhs; rw [e1, t1]
            show _ = (tok r ++ 32 :: txt q1) ++ r3
            simp [List.append_assoc]
          · cases h
theorem edge32 (r : List Nat) : edge (32 :: r) := .inr ⟨32, r, rfl, rfl⟩
theorem edge41 (r : List Nat) : edge (41 :: r) := .inr ⟨41, r, rfl, rfl⟩
theorem rd_txt : ∀ (q : SQ) (n : Nat) (r : List Nat), WF q → edge r → dep q ≤ n → rd n (txt q ++ r) = some (q, r)
  | .one w, 0, r, _, _, hd => absurd hd (by show ¬ 1 ≤ 0; omega)
  | .one w, n + 1, r, h, he, hd => by
    obtain ⟨f, n0⟩ := word_ok (mP h)
    obtain ⟨t1, t2⟩ := tok_app f he
    unfold rd
    rw [show txt (.one w) ++ r = w ++ r from rfl, eat_word f n0 rfl, t1, t2]
    exact if_pos h
  | .nm w x, 0, r, _, _, hd => absurd hd (by show ¬ 1 ≤ 0; omega)
  | .nm w x, n + 1, r, h, he, hd => by
    obtain ⟨f, n0⟩ := word_ok (mN h.1)
    obtain ⟨t1, t2⟩ := tok_app (r := 32 :: (x ++ r)) f (edge32 _)
    obtain ⟨u1, u2⟩ := tok_app (r := r) (good_free h.2) he
    unfold rd
    rw [show txt (.nm w x) ++ r = w ++ 32 :: (x ++ r) by show (w ++ 32 :: x) ++ r = _; simp, eat_word f n0 rfl, t1, t2]
    dsimp only
    rw [if_neg (NnP h.1), eat_hit]
    show (if w ∈ NAMED then _ else _) = _
    rw [if_pos h.1, u1, u2, if_pos h.2]
  | .led w q, 0, r, _, _, hd => absurd hd (by show ¬ dep q + 1 ≤ 0; omega)
  | .led w q, n + 1, r, h, he, hd => by
    have hd : dep q + 1 ≤ n + 1 := hd
    obtain ⟨f, n0⟩ := word_ok (mL h.1)
    obtain ⟨t1, t2⟩ := tok_app (r := 32 :: (txt q ++ r)) f (edge32 _)
    unfold rd
    rw [show txt (.led w q) ++ r = w ++ 32 :: (txt q ++ r) by show (w ++ 32 :: txt q) ++ r = _; simp, eat_word f n0 rfl, t1, t2]
    dsimp only
    rw [if_neg (LnP h.1).1, eat_hit]
    show (if w ∈ NAMED then _ else _) = _
    rw [if_neg (LnP h.1).2, if_pos h.1, rd_txt q n r h.2 he (by omega)]
    rfl
  | .two w a b, 0, r, _, _, hd => absurd hd (by show ¬ max (dep a) (dep b) + 1 ≤ 0; omega)
  | .two w a b, n + 1, r, h, he, hd => by
    have hd : max (dep a) (dep b) + 1 ≤ n + 1 := hd
    obtain ⟨f, n0⟩ := word_ok (mT h.1)
    obtain ⟨t1, t2⟩ := tok_app (r := 32 :: (txt b ++ 41 :: r)) f (edge32 _)
    unfold rd
    rw [show txt (.two w a b) ++ r = 40 :: (txt a ++ 32 :: (w ++ 32 :: (txt b ++ 41 :: r))) by show (40 :: (txt a ++ 32 :: (w ++ 32 :: (txt b ++ [41])))) ++ r = _; simp, eat_hit]
    dsimp only
    rw [rd_txt a n _ h.2.1 (edge32 _) (by omega), Option.bind_some]
    dsimp only
    rw [eat_hit, Option.bind_some, t1, if_pos h.1, t2, eat_hit, Option.bind_some, rd_txt b n _ h.2.2 (edge41 _) (by omega), Option.bind_some]
    dsimp only
    rw [eat_hit]
    rfl
theorem dep_cnt : ∀ q : SQ, dep q ≤ cnt (txt q) + 1
  | .one w => by show 1 ≤ _; omega
  | .nm w x => by show 1 ≤ _; omega
  | .led w q => by
    have := dep_cnt q
    show dep q + 1 ≤ cnt (w ++ 32 :: txt q) + 1
    unfold cnt at *
    rw [List.countP_append, List.countP_cons_of_pos (by rfl)]
    omega
  | .two w a b => by
    have h1 := dep_cnt a
    have h2 := dep_cnt b
    show max (dep a) (dep b) + 1 ≤ cnt (40 :: (txt a ++ 32 :: (w ++ 32 :: (txt b ++ [41])))) + 1
    unfold cnt at *
    rw [List.countP_cons_of_pos (by rfl), List.countP_append, List.countP_cons_of_pos (by rfl), List.countP_append, List.countP_cons_of_pos (by rfl), List.countP_append]
    omega

/-! the law's reader, on the words left -/
def lp : Nat → List (List Nat) → Option (SQ × List (List Nat))
  | 0, _ => none
  | _ + 1, [] => none
  | n + 1, w :: ws => if w ∈ PLAIN then some (.one w, ws)
    else if w ∈ NAMED then (match ws with
      | [] => none
      | x :: ws' => if good w x = true then some (.nm w x, ws') else none)
    else if w ∈ LED then (lp n ws).bind fun p => some (.led w p.1, p.2)
    else if w = [40] then (lp n ws).bind fun p => match p.2 with
      | [] => none
      | t :: r2 => if t ∈ TWO then (lp n r2).bind fun s => match s.2 with
        | [] => none
        | u :: r4 => if u = [41] then some (.two t p.1 s.1, r4) else none
        else none
    else none
theorem lp_wf : ∀ (n : Nat) {ws r : List (List Nat)} {q : SQ}, lp n ws = some (q, r) → WF q
  | 0, _, _, _, h => by cases h
  | _ + 1, [], _, _, h => by cases h
  | n + 1, w :: ws, r, q, h => by
    unfold lp at h
    split at h
    · rename_i hp
      cases h; exact hp
    · split at h
      · rename_i hn
        cases ws with
        | nil => cases h
        | cons x ws' =>
          dsimp only at h
          split at h
          · rename_i hg
            cases h; exact ⟨hn, hg⟩
          · cases h
      · split at h
        · rename_i hl
          obtain ⟨⟨q1, r1⟩, h1, h⟩ := Option.bind_eq_some_iff.mp h
          cases h
          exact ⟨hl, lp_wf n h1⟩
        · split at h
          · obtain ⟨⟨a, r1⟩, h1, h⟩ := Option.bind_eq_some_iff.mp h
            cases r1 with
            | nil => cases h
            | cons t r2 =>
              dsimp only at h
              split at h
              · rename_i ht
                obtain ⟨⟨b, r3⟩, h2, h⟩ := Option.bind_eq_some_iff.mp h
                cases r3 with
                | nil => cases h
                | cons u r4 =>
                  dsimp only at h
                  split at h
                  · cases h
                    exact ⟨ht, lp_wf n h1, lp_wf n h2⟩
                  · cases h
              · cases h
          · cases h
def toks : SQ → List (List Nat)
  | .one w => [w]
  | .nm w x => [w, x]
  | .led w q => w :: toks q
  | .two w a b => [40] :: (toks a ++ w :: (toks b ++ [[41]]))
theorem open_no : [40] ∉ PLAIN ∧ [40] ∉ NAMED ∧ [40] ∉ LED := by decide
theorem lp_toks : ∀ (q : SQ) (n : Nat) (r : List (List Nat)), WF q → dep q ≤ n → lp n (toks q ++ r) = some (q, r)
  | .one w, 0, r, _, hd => absurd hd (by show ¬ 1 ≤ 0; omega)
  | .one w, n + 1, r, h, hd => by
    show lp (n + 1) (w :: r) = _
    unfold lp
    exact if_pos h
  | .nm w x, 0, r, _, hd => absurd hd (by show ¬ 1 ≤ 0; omega)
  | .nm w x, n + 1, r, h, hd => by
    show lp (n + 1) (w :: x :: r) = _
    unfold lp
    rw [if_neg (NnP h.1), if_pos h.1]
    exact if_pos h.2
  | .led w q, 0, r, _, hd => absurd hd (by show ¬ dep q + 1 ≤ 0; omega)
  | .led w q, n + 1, r, h, hd => by
    have hd : dep q + 1 ≤ n + 1 := hd
    show lp (n + 1) (w :: (toks q ++ r)) = _
    unfold lp
    rw [if_neg (LnP h.1).1, if_neg (LnP h.1).2, if_pos h.1, lp_toks q n r h.2 (by omega)]
    rfl
  | .two w a b, 0, r, _, hd => absurd hd (by show ¬ max (dep a) (dep b) + 1 ≤ 0; omega)
  | .two w a b, n + 1, r, h, hd => by
    have hd : max (dep a) (dep b) + 1 ≤ n + 1 := hd
    rw [show toks (.two w a b) ++ r = [40] :: (toks a ++ (w :: (toks b ++ [41] :: r))) by show ([40] :: (toks a ++ w :: (toks b ++ [[41]]))) ++ r = _; simp]
    unfold lp
    rw [if_neg open_no.1, if_neg open_no.2.1, if_neg open_no.2.2, if_pos rfl, lp_toks a n _ h.2.1 (by omega)]
    show (if w ∈ TWO then _ else _) = _
    rw [if_pos h.1, lp_toks b n _ h.2.2 (by omega)]
    rfl
/-! the words of a text -/
def rp (c : Nat) : List Nat := if c = 40 then [40, 32] else if c = 41 then [32, 41] else [c]
def RP (t : List Nat) : List Nat := t.flatMap rp
theorem RP_free {w : List Nat} (h : free w = true) : RP w = w := by
  induction w with
  | nil => rfl
  | cons d s ih =>
    unfold free at h
    rw [List.all_cons, Bool.and_eq_true] at h
    unfold RP at *
    rw [List.flatMap_cons, ih h.2]
    have h40 : d ≠ 40 := fun e => by rw [e] at h; exact absurd h.1 (by decide)
    have h41 : d ≠ 41 := fun e => by rw [e] at h; exact absurd h.1 (by decide)
    unfold rp
    rw [if_neg h40, if_neg h41]
    rfl
theorem RP_app (a b : List Nat) : RP (a ++ b) = RP a ++ RP b := List.flatMap_append
theorem RP_sp (b : List Nat) : RP (32 :: b) = 32 :: RP b := rfl
theorem join_app {a b : List (List Nat)} (ha : a ≠ []) (hb : b ≠ []) : TL.joinL [32] (a ++ b) = TL.joinL [32] a ++ 32 :: TL.joinL [32] b := by
  induction a with
  | nil => exact absurd rfl ha
  | cons p r ih =>
    cases r with
    | nil =>
      cases b with
      | nil => exact absurd rfl hb
      | cons q s => rfl
    | cons q s =>
      show p ++ ([32] ++ TL.joinL [32] ((q :: s) ++ b)) = p ++ ([32] ++ TL.joinL [32] (q :: s)) ++ 32 :: TL.joinL [32] b
      rw [ih (List.cons_ne_nil _ _)]
      simp [List.append_assoc]
theorem toks_ne : ∀ q : SQ, toks q ≠ []
  | .one _ => List.cons_ne_nil _ _
  | .nm _ _ => List.cons_ne_nil _ _
  | .led _ _ => List.cons_ne_nil _ _
  | .two _ _ _ => List.cons_ne_nil _ _
theorem RP_txt : ∀ q : SQ, WF q → RP (txt q) = TL.joinL [32] (toks q)
  | .one w, h => RP_free (word_ok (mP h)).1
  | .nm w x, h => by
    show RP (w ++ 32 :: x) = w ++ ([32] ++ x)
    rw [RP_app, RP_sp, RP_free (word_ok (mN h.1)).1, RP_free (good_free h.2)]
    rfl
  | .led w q, h => by
    show RP (w ++ 32 :: txt q) = TL.joinL [32] ([w] ++ toks q)
    rw [RP_app, RP_sp, RP_free (word_ok (mL h.1)).1, RP_txt q h.2, join_app (List.cons_ne_nil _ _) (toks_ne q)]
    rfl
  | .two w a b, h => by
    show RP (40 :: (txt a ++ 32 :: (w ++ 32 :: (txt b ++ [41])))) = TL.joinL [32] ([[40]] ++ (toks a ++ ([w] ++ (toks b ++ [[41]]))))
    rw [join_app (List.cons_ne_nil _ _) (by simp [toks_ne]), join_app (toks_ne a) (by simp), join_app (List.cons_ne_nil _ _) (by simp), join_app (toks_ne b) (List.cons_ne_nil _ _),
      show RP (40 :: (txt a ++ 32 :: (w ++ 32 :: (txt b ++ [41])))) = 40 :: 32 :: RP (txt a ++ 32 :: (w ++ 32 :: (txt b ++ [41]))) from rfl,
      RP_app, RP_sp, RP_app, RP_sp, RP_app, RP_txt a h.2.1, RP_txt b h.2.2, RP_free (word_ok (mT h.1)).1]
    simp [TL.joinL, RP, rp]
theorem free32 {w : List Nat} (h : free w = true) : 32 ∉ w := fun m => absurd (List.all_eq_true.mp h 32 m) (by decide)
theorem toks_free : ∀ q : SQ, WF q → ∀ p ∈ toks q, 32 ∉ p
  | .one w, h, p, hp => by
    rw [List.mem_singleton.mp hp]; exact free32 (word_ok (mP h)).1
  | .nm w x, h, p, hp => by
    rcases List.mem_cons.mp hp with e | hp
    · rw [e]; exact free32 (word_ok (mN h.1)).1
    · rw [List.mem_singleton.mp hp]; exact free32 (good_free h.2)
  | .led w q, h, p, hp => by
    rcases List.mem_cons.mp hp with e | hp
    · rw [e]; exact free32 (word_ok (mL h.1)).1
    · exact toks_free q h.2 p hp
  | .two w a b, h, p, hp => by
    rcases List.mem_cons.mp hp with e | hp
    · rw [e]; decide
    · rcases List.mem_append.mp hp with hp | hp
      · exact toks_free a h.2.1 p hp
      · rcases List.mem_cons.mp hp with e | hp
        · rw [e]; exact free32 (word_ok (mT h.1)).1
        · rcases List.mem_append.mp hp with hp | hp
          · exact toks_free b h.2.2 p hp
          · rw [List.mem_singleton.mp hp]; decide
theorem split_txt (q : SQ) (h : WF q) : TL.spl [32] 0 [] (RP (txt q)) = toks q := by
  rw [RP_txt q h]
  exact TL.spl_join (toks_ne q) (toks_free q h)
/-! both readers -/
def RQs (n : Nat) (t : List Nat) : Option SQ := match rd n t with
  | some (q, []) => some q
  | _ => none
def DQs (n : Nat) (t : List Nat) : Option SQ := match lp n (TL.spl [32] 0 [] (RP t)) with
  | some (q, []) => if txt q = t then some q else none
  | _ => none
theorem RQs_iff {n : Nat} {t : List Nat} {q : SQ} (hn : cnt t + 1 ≤ n) : RQs n t = some q ↔ WF q ∧ txt q = t := by
  constructor
  · intro h
    unfold RQs at h
    split at h
    · rename_i q' e
      cases h
      obtain ⟨w, ht⟩ := rd_sound n e
      rw [List.append_nil] at ht
      exact ⟨w, ht.symm⟩
    · cases h
  · rintro ⟨w, ht⟩
    have := rd_txt q n [] w (.inl rfl) (by have := dep_cnt q; rw [ht] at this; omega)
    rw [List.append_nil, ht] at this
    unfold RQs
    rw [this]
theorem DQs_iff {n : Nat} {t : List Nat} {q : SQ} (hn : cnt t + 1 ≤ n) : DQs n t = some q ↔ WF q ∧ txt q = t := by
  constructor
  · intro h
    unfold DQs at h
    split at h
    · rename_i q' e
      split at h
      · rename_i ht
        cases h
        exact ⟨lp_wf n e, ht⟩
      · cases h
    · cases h
  · rintro ⟨w, ht⟩
    have := lp_toks q n [] w (by have := dep_cnt q; rw [ht] at this; omega)
    rw [List.append_nil, ← split_txt q w, ht] at this
    unfold DQs
    rw [this]
    exact if_pos ht
theorem RD_eq {n m : Nat} {t : List Nat} (hn : cnt t + 1 ≤ n) (hm : cnt t + 1 ≤ m) : RQs n t = DQs m t := by
  refine Option.ext fun q => ?_
  rw [RQs_iff hn, DQs_iff hm]
end PL
set_option Elab.async false
set_option linter.all false
set_option maxRecDepth 100000
set_option maxHeartbeats 4000000
/-! Nb81: what the class Asking computes. -/
namespace PL
open PySem PySem.Spec L2

/-! rules for XF -/
section
variable {ρ ρ1 ρ' : Ro} {f g : XF} {s : SX} {d : D} {c : Str} {t : TF} {h' : XEF} {i j n : Nat} {fe : EF} {k : Kd}
theorem xSeq_n (h : f ρ = .nx ρ1) (k : g ρ1 = s) : xSeq f g ρ = s := by unfold xSeq; rw [h]; exact k
theorem xSeq_r (h : f ρ = .rt ρ' d) : xSeq f g ρ = .rt ρ' d := by unfold xSeq; rw [h]
theorem xSeq_e (h : f ρ = .exc c) : xSeq f g ρ = .exc c := by unfold xSeq; rw [h]
theorem xIf_t (h : t ρ = .ok true) (k : f ρ = s) : xIf t f g ρ = s := by unfold xIf; rw [h]; exact k
theorem xIf_f (h : t ρ = .ok false) (k : g ρ = s) : xIf t f g ρ = s := by unfold xIf; rw [h]; exact k
theorem xLift_ok (h : fe ρ = .ok (k, d)) (o : okE (k, d) = true) : xLift fe ρ = .ok ρ d := by unfold xLift; rw [h]; exact if_pos o
theorem xLift_exc (h : fe ρ = .exc c) : xLift fe ρ = .exc c := by unfold xLift; rw [h]
theorem xSet_ok (h : h' ρ = .ok ρ' d) : xSet j h' ρ = .nx (ρ'.set j (some (false, d))) := by unfold xSet; rw [h]; rfl
theorem xSet_exc (h : h' ρ = .exc c) : xSet j h' ρ = .exc c := by unfold xSet; rw [h]; rfl
theorem xDo_ok (h : h' ρ = .ok ρ' d) : xDo h' ρ = .nx ρ' := by unfold xDo; rw [h]; rfl
theorem xDo_exc (h : h' ρ = .exc c) : xDo h' ρ = .exc c := by unfold xDo; rw [h]; rfl
theorem xRet_ok (h : h' ρ = .ok ρ' d) : xRet h' ρ = .rt ρ' d := by unfold xRet; rw [h]; rfl
theorem xRet_exc (h : h' ρ = .exc c) : xRet h' ρ = .exc c := by unfold xRet; rw [h]; rfl
theorem xApp_ok {p : D → Bool} {F : FX} {fs : AF} {es : List Ev} {ds : List D} {q : XO} (h : ρ[i]? = some (some (true, d))) (hp : p d = true) (ha : fs ρ = .ok es) (hn : es.length = n) (ho : es.all okE = true) (hd : es.map (·.2) = ds) (hF : F d ds = q) :
    xApp i n p F fs ρ = xRes i ρ q := by
  subst hd hF
  unfold xApp
  rw [h]
  dsimp only
  rw [if_pos hp, ha]
  exact if_pos ⟨hn, ho⟩
theorem whileX_t {fb : XF} (h : t ρ = .ok true) (hb : fb ρ = .nx ρ1) : whileX t fb (n + 1) ρ = whileX t fb n ρ1 := by
  show (match t ρ with
    | .ok true => (match fb ρ with
      | .nx ρ2 => whileX t fb n ρ2
      | r => r)
    | .ok false => .nx ρ
    | .exc c => .exc c
    | .bad => .bad) = _
  rw [h, hb]
theorem whileX_f {fb : XF} (h : t ρ = .ok false) : whileX t fb (n + 1) ρ = .nx ρ := by
  show (match t ρ with
    | .ok true => (match fb ρ with
      | .nx ρ2 => whileX t fb n ρ2
      | r => r)
    | .ok false => .nx ρ
    | .exc c => .exc c
    | .bad => .bad) = _
  rw [h]
end
theorem fnX_ok {N n : Nat} {f : XF} {d : D} {ds : List D} {ρ0 : Ro} {s : SX} {q : XO} (hn : ds.length = n) (he : enterX N d ds = ρ0) (hb : f ρ0 = s) (hr : runX s = q) : fnX N n f d ds = q := by
  unfold fnX
  rw [if_pos hn, he, hb, hr]

/-! the object -/
def IQ : Str := "InvalidQuestion"
def FN : List Str := ["string", "at"]
def As (s : List Nat) (a : Nat) : D := .obj "Asking" FN [.str s, .int (a : Nat)]
theorem nAt : ("at" : Str) ≠ "string" := by decide
section
variable {s : List Nat} {a : Nat} {ρ : Ro} {k : Kd} {fe fa : EF}
theorem fg_at : fldG "at" FN [D.str s, D.int (a : Nat)] = some (.int (a : Nat)) := by
  unfold FN fldG
  rw [if_neg nAt]
  exact if_pos rfl
theorem fg_string : fldG "string" FN [D.str s, D.int (a : Nat)] = some (.str s) := if_pos rfl
theorem g_at : gFld "Asking" "at" (As s a) = .ok (.cl, .int (a : Nat)) := by
  show (if ("Asking" : Str) = "Asking" then (match fldG "at" FN [D.str s, D.int (a : Nat)] with | some d => R.ok (Kd.cl, d) | none => R.bad) else R.bad) = _
  rw [fg_at]
  exact if_pos rfl
theorem g_string : gFld "Asking" "string" (As s a) = .ok (.cl, .str s) := by
  show (if ("Asking" : Str) = "Asking" then (match fldG "string" FN [D.str s, D.int (a : Nat)] with | some d => R.ok (Kd.cl, d) | none => R.bad) else R.bad) = _
  rw [fg_string]
  exact if_pos rfl
theorem at_ok (h : fe ρ = .ok (k, As s a)) : op1 (gFld "Asking" "at") fe ρ = .ok (.cl, .int (a : Nat)) := op1_ok h g_at
theorem string_ok (h : fe ρ = .ok (k, As s a)) : op1 (gFld "Asking" "string") fe ρ = .ok (.cl, .str s) := op1_ok h g_string
theorem fn_at : fldN "at" FN = FN := by
  unfold FN fldN
  rw [if_neg (Ne.symm nAt)]
  unfold fldN
  rw [if_pos rfl]
theorem fs_at {z : D} {i : Int} : fldS "at" (.int i) FN [D.str s, z] = [.str s, .int i] := by
  unfold FN fldS
  rw [if_neg (Ne.symm nAt)]
  unfold fldS
  rw [if_pos rfl]
theorem aug_at (h : ρ[(0 : Nat)]? = some (some (true, As s a))) : xAug "Asking" "at" (eC (.int 1)) ρ = .nx (ρ.set 0 (some (true, As s (a + 1)))) := by
  unfold xAug
  rw [h]
  show (if ("Asking" : Str) = "Asking" ∧ FN.length < 1000 then (match fldG "at" FN [D.str s, D.int (a : Nat)], eC (.int 1) ρ with
    | some (.int i), .ok (_, .int j) => SX.nx (ρ.set 0 (some (true, .obj "Asking" (fldN "at" FN) (fldS "at" (.int (i + j)) FN [D.str s, D.int (a : Nat)]))))
    | some (.int i), .exc c => .exc c
    | _, _ => .bad) else .bad) = _
  rw [if_pos ⟨rfl, by decide⟩, fg_at]
  show SX.nx (ρ.set 0 (some (true, .obj "Asking" (fldN "at" FN) (fldS "at" (.int ((a : Nat) + 1)) FN [D.str s, D.int (a : Nat)])))) = _
  rw [fn_at, fs_at]
  rfl
theorem is_as {m : Str} (h : FN.contains m = false) : isOf "Asking" m (As s a) = true := by
  show (("Asking" : Str) == "Asking" && !FN.contains m) = true
  rw [h, beq_self_eq_true]
  rfl
theorem is_token : isOf "Asking" "token" (As s a) = true := is_as (by decide)
theorem is_meet : isOf "Asking" "meet" (As s a) = true := is_as (by decide)
theorem is_whole : isOf "Asking" "whole_set" (As s a) = true := is_as (by decide)
theorem is_two : isOf "Asking" "two_sets" (As s a) = true := is_as (by decide)
end
theorem init_ok (s : List Nat) : F_Asking___init__ (.obj "Asking" [] []) [.str s] = .ok (As s 0) .non := by
  have n1 : ("string" : Str) ≠ "at" := Ne.symm nAt
  refine fnX_ok (ρ0 := [some (true, .obj "Asking" [] []), some (false, .str s)]) rfl rfl (s := .nx [some (true, As s 0), some (false, .str s)]) ?_ rfl
  refine xSeq_n (ρ1 := [some (true, .obj "Asking" ["string"] [.str s]), some (false, .str s)]) ?_ (xSeq_n (ρ1 := [some (true, As s 0), some (false, .str s)]) ?_ rfl)
  · rfl
  · have e1 : fldN "at" ["string"] = FN := by
      unfold fldN FN
      rw [if_neg n1]
      rfl
    have e2 : fldS "at" (D.int 0) ["string"] [D.str s] = [.str s, .int ((0 : Nat) : Int)] := by
      unfold fldS
      rw [if_neg n1]
      rfl
    show SX.nx (List.set _ 0 (some (true, D.obj "Asking" (fldN "at" ["string"]) (fldS "at" (D.int 0) ["string"] [D.str s])))) = _
    rw [e1, e2]
    rfl
theorem sep_mem (c : Nat) : decide (c ∈ [32, 40, 41]) = sep c := by
  unfold sep
  rw [Bool.eq_iff_iff, decide_eq_true_eq]
  simp [Bool.or_eq_true, or_assoc]
theorem gIn_sep (c : Nat) : gIn true (.str [c]) (.str [32, 40, 41]) = .ok (.cl, .bl (!sep c)) := by
  show R.ok (Kd.cl, D.bl (!decide (c ∈ [32, 40, 41]))) = _
  rw [sep_mem]
abbrev tokT : TF := tAndF (t2 gLt (op1 (gFld "Asking" "at") (eVar 0)) (op1 gLen (op1 (gFld "Asking" "string") (eVar 0)))) (t2 (gIn true) (op2 gIx (op1 (gFld "Asking" "string") (eVar 0)) (op1 (gFld "Asking" "at") (eVar 0))) (eC (.str [32, 40, 41])))
theorem tok_loop (x1 : Sl) : ∀ (r p : List Nat) (n : Nat), (p ++ r).length ≤ 16777216 → r.length < n →
    whileX tokT (xSeq (xAug "Asking" "at" (eC (.int 1))) <| xSkip) n [some (true, As (p ++ r) p.length), x1] = .nx [some (true, As (p ++ r) (p.length + (tok r).length)), x1]
  | _, _, 0, _, h => absurd h (Nat.not_lt_zero _)
  | [], p, n + 1, hz, _ => by
    refine (whileX_f (tAnd_f (t2_ok (at_ok (k := .pk) (s := p ++ []) (a := p.length) rfl) (lenS (string_ok (k := .pk) (s := p ++ []) (a := p.length) rfl) hz) (k := .cl) (b := false) ?_))).trans ?_
    · show R.ok (Kd.cl, D.bl (decide ((p.length : Int) < ((p ++ []).length : Nat)))) = _
      rw [List.append_nil, decide_eq_false (by omega)]
    · rfl
  | c :: r, p, n + 1, hz, hn => by
    have hl : (p ++ c :: r).length = p.length + (r.length + 1) := by rw [List.length_append, List.length_cons]
    have t1 : t2 gLt (op1 (gFld "Asking" "at") (eVar 0)) (op1 gLen (op1 (gFld "Asking" "string") (eVar 0))) [some (true, As (p ++ c :: r) p.length), x1] = .ok true := by
      refine t2_ok (at_ok (k := .pk) (s := p ++ c :: r) (a := p.length) rfl) (lenS (string_ok (k := .pk) (s := p ++ c :: r) (a := p.length) rfl) hz) (k := .cl) ?_
      show R.ok (Kd.cl, D.bl (decide ((p.length : Int) < ((p ++ c :: r).length : Nat)))) = _
      rw [decide_eq_true (by omega)]
    have t2' : t2 (gIn true) (op2 gIx (op1 (gFld "Asking" "string") (eVar 0)) (op1 (gFld "Asking" "at") (eVar 0))) (eC (.str [32, 40, 41])) [some (true, As (p ++ c :: r) p.length), x1] = .ok (!sep c) :=
      t2_ok (k := .cl) (ixS (string_ok (k := .pk) (s := p ++ c :: r) (a := p.length) rfl) (at_ok (k := .pk) (s := p ++ c :: r) (a := p.length) rfl) hz (c := c) (by simp)) rfl (gIn_sep c)
    have ec : p ++ c :: r = (p ++ [c]) ++ r := by simp
    cases hs : sep c with
    | true =>
      rw [hs] at t2'
      refine (whileX_f (tAnd_t t1 t2')).trans ?_
      unfold tok
      rw [List.takeWhile_cons, hs]
      rfl
    | false =>
      rw [hs] at t2'
      refine (whileX_t (ρ1 := [some (true, As (p ++ c :: r) (p.length + 1)), x1]) (tAnd_t t1 t2') (xSeq_n (aug_at rfl) rfl)).trans ?_
      have ih := tok_loop x1 r (p ++ [c]) n (by rw [← ec]; exact hz) (by rw [List.length_cons] at hn; omega)
      rw [← ec, List.length_append] at ih
      refine ih.trans ?_
      unfold tok
      rw [List.takeWhile_cons, hs]
      show SX.nx [some (true, As (p ++ c :: r) (p.length + 1 + (r.takeWhile fun c => !sep c).length)), x1] = SX.nx [some (true, As (p ++ c :: r) (p.length + (c :: r.takeWhile fun c => !sep c).length)), x1]
      rw [List.length_cons, show p.length + 1 + (r.takeWhile fun c => !sep c).length = p.length + ((r.takeWhile fun c => !sep c).length + 1) by omega]
theorem slMid {ρ : Ro} {fa fl fh : EF} {k k2 k3 : Kd} {x : List Nat} {n m : Nat} (ha : fa ρ = .ok (k, .str x)) (hl : fl ρ = .ok (k2, .int n)) (hh : fh ρ = .ok (k3, .int m)) (hz : x.length ≤ 16777216) : eSl fa (oSome fl) (oSome fh) ρ = .ok (.cl, .str ((x.take m).drop n)) := by
  unfold eSl
  rw [ha, R.bind_ok]
  unfold oSome
  rw [hl, R.bind_ok, R.bind_ok, hh, R.bind_ok, R.bind_ok]
  show gSl (.str x) (some (n : Int)) (some (m : Int)) = _
  rw [gSl_s hz, cut_mid]
theorem mid_app (p u v : List Nat) : ((p ++ (u ++ v)).take (p.length + u.length)).drop p.length = u := by
  rw [← List.append_assoc, List.take_left' (by rw [List.length_append]), List.drop_left]
theorem token_ok {p r : List Nat} (hz : (p ++ r).length ≤ 90000) : F_Asking_token (As (p ++ r) p.length) [] = .ok (As (p ++ r) (p.length + (tok r).length)) (.str (tok r)) := by
  have hz' : (p ++ r).length ≤ 16777216 := by omega
  refine fnX_ok (ρ0 := [some (true, As (p ++ r) p.length), none]) rfl rfl (s := .rt [some (true, As (p ++ r) (p.length + (tok r).length)), some (false, .int p.length)] (.str (tok r))) ?_ rfl
  refine xSeq_n (xSet_ok (ρ' := [some (true, As (p ++ r) p.length), none]) (xLift_ok (at_ok (k := .pk) (s := p ++ r) (a := p.length) rfl) rfl)) ?_
  refine xSeq_n (tok_loop (some (false, .int p.length)) r p 100000 hz' (by rw [List.length_append] at hz; omega)) (xSeq_r (xRet_ok (xLift_ok (k := .cl) ?_ rfl)))
  refine (slMid (string_ok (k := .pk) (s := p ++ r) (a := p.length + (tok r).length) rfl) (fl := eVar 1) (k2 := .cl) (n := p.length) rfl (at_ok (k := .pk) (s := p ++ r) (a := p.length + (tok r).length) rfl) hz').trans ?_
  have e := mid_app p (tok r) (rst r)
  rw [tok_rst] at e
  rw [e]
/-! demand -/
theorem demand_t : F_demand [.bl true] = .ok (.cl, .non) := rfl
theorem demand_f : F_demand [.bl false] = .exc IQ := rfl
theorem eCall_exc {f : FD} {n : Nat} {fs : AF} {es : List Ev} {ds : List D} {ρ : Ro} {c : Str} (ha : fs ρ = .ok es) (hd : es.map (·.2) = ds) (hn : es.length = n) (hf : f ds = .exc c) : eCall f n fs ρ = .exc c := by
  subst hd
  unfold eCall
  rw [ha, R.bind_ok, if_pos hn, hf]
  cases es.any pkL with
  | true => rw [if_pos rfl]; rfl
  | false => rw [if_neg Bool.false_ne_true]
section
variable {ρ : Ro} {fe : EF} {k : Kd} {b : Bool}
theorem dem_ok (h : fe ρ = .ok (k, .bl true)) : eCall F_demand 1 (aCons fe aNil) ρ = .ok (.cl, .non) := eCall_ok (aCons_ok h rfl) rfl rfl demand_t rfl
theorem dem_exc (h : fe ρ = .ok (k, .bl false)) : eCall F_demand 1 (aCons fe aNil) ρ = .exc IQ := eCall_exc (aCons_ok h rfl) rfl rfl demand_f
theorem xdem_ok (h : fe ρ = .ok (k, .bl true)) : xDo (xLift (eCall F_demand 1 (aCons fe aNil))) ρ = .nx ρ := xDo_ok (xLift_ok (dem_ok h) rfl)
theorem xdem_exc (h : fe ρ = .ok (k, .bl false)) : xDo (xLift (eCall F_demand 1 (aCons fe aNil))) ρ = .exc IQ := xDo_exc (xLift_exc (dem_exc h))
end
/-! meet -/
theorem head_eq (c : Nat) (r : List Nat) : (r.take 1 == [c]) = (eat c r).isSome := by
  cases r with
  | nil => rfl
  | cons d s =>
    show ([d] == [c]) = (if d = c then some s else none).isSome
    by_cases e : d = c
    · rw [if_pos e, e]; exact beq_self_eq_true _
    · rw [if_neg e]
      exact beq_false_of_ne fun h => e (List.cons.inj h).1
theorem one_app (p r : List Nat) : ((p ++ r).take (p.length + 1)).drop p.length = r.take 1 := by
  rw [List.take_append, List.take_of_length_le (by omega), show p.length + 1 - p.length = 1 by omega, List.drop_left]
theorem sign_ok {p r : List Nat} {ρ : Ro} (hz : (p ++ r).length ≤ 90000) (h : ρ[(0 : Nat)]? = some (some (true, As (p ++ r) p.length))) :
    eSl (op1 (gFld "Asking" "string") (eVar 0)) (oSome (op1 (gFld "Asking" "at") (eVar 0))) (oSome (op2 gAdd (op1 (gFld "Asking" "at") (eVar 0)) (eC (.int 1)))) ρ = .ok (.cl, .str (r.take 1)) := by
  have v : eVar 0 ρ = .ok (.pk, As (p ++ r) p.length) := by unfold eVar; rw [h]
  refine (slMid (string_ok v) (at_ok v) (addN (at_ok v) (k2 := .cl) (y := 1) rfl) (by omega)).trans ?_
  rw [one_app]
theorem meet_ok {p r : List Nat} {c : Nat} (hz : (p ++ r).length ≤ 90000) : F_Asking_meet (As (p ++ r) p.length) [.str [c]] = match eat c r with
    | some _ => .ok (As (p ++ r) (p.length + 1)) .non
    | none => .exc IQ := by
  have e : op2 gEq (eSl (op1 (gFld "Asking" "string") (eVar 0)) (oSome (op1 (gFld "Asking" "at") (eVar 0))) (oSome (op2 gAdd (op1 (gFld "Asking" "at") (eVar 0)) (eC (.int 1))))) (eVar 1) [some (true, As (p ++ r) p.length), some (false, .str [c])] = .ok (.cl, .bl (eat c r).isSome) := by
    refine op2_ok (sign_ok hz rfl) (k2 := .cl) (y := .str [c]) rfl ?_
    rw [gEq_s, head_eq]
  cases h : eat c r with
  | some r' =>
    rw [h] at e
    exact fnX_ok (ρ0 := [some (true, As (p ++ r) p.length), some (false, .str [c])]) rfl rfl (s := .nx [some (true, As (p ++ r) (p.length + 1)), some (false, .str [c])]) (xSeq_n (xdem_ok e) (xSeq_n (aug_at rfl) rfl)) rfl
  | none =>
    rw [h] at e
    exact fnX_ok (ρ0 := [some (true, As (p ++ r) p.length), some (false, .str [c])]) rfl rfl (s := .exc IQ) (xSeq_e (xdem_exc e)) rfl
end PL
set_option Elab.async false
set_option linter.all false
set_option maxRecDepth 100000
set_option maxHeartbeats 4000000
/-! Nc81: paths, globs, of the program and of the law. -/
namespace PL
open PySem PySem.Spec L2

theorem gIn_c (c : Nat) (sg : List Nat) : gIn false (.str [c]) (.str sg) = .ok (.cl, .bl (sg.contains c)) := by
  show R.ok (Kd.cl, D.bl (decide (c ∈ sg))) = _
  rw [show decide (c ∈ sg) = sg.contains c by rw [Bool.eq_iff_iff, decide_eq_true_eq, List.contains_iff_mem]]
theorem gNin_c (c : Nat) (sg : List Nat) : gIn true (.str [c]) (.str sg) = .ok (.cl, .bl (!sg.contains c)) := by
  show R.ok (Kd.cl, D.bl (!decide (c ∈ sg))) = _
  rw [show decide (c ∈ sg) = sg.contains c by rw [Bool.eq_iff_iff, decide_eq_true_eq, List.contains_iff_mem]]
theorem gAll_ok (bs : List Bool) : gAllAny true (.lst (bs.map D.bl)) = .ok (.cl, .bl (bs.all id)) := by
  show (match unB (bs.map D.bl) with | some ns => R.ok (Kd.cl, D.bl (if true = true then ns.all id else ns.any id)) | none => .bad) = _
  rw [unB_map]
  rfl
theorem gInX_ok {neg : Bool} {c : Nat} {r z : List Nat} : gInX neg (.str (c :: r)) (.str z) = .ok (.cl, .bl (if neg = true then !subS (c :: r) z else subS (c :: r) z)) := rfl
section
variable {ρ : Ro} {fa fb : EF} {k : Kd}
theorem iv_str {x : List Nat} (h : fa ρ = .ok (k, .str x)) : iVal fa ρ = .ok (false, x.map fun c => D.str [c]) := by
  unfold iVal; rw [h]; rfl
theorem iv_lst {ds : List D} (h : fa ρ = .ok (.fr, .lst ds)) : iVal fa ρ = .ok (false, ds) := by
  unfold iVal; rw [h]; rfl
theorem iv_cl {ds : List D} (h : fa ρ = .ok (.cl, .lst ds)) : iVal fa ρ = .ok (false, ds) := by
  unfold iVal; rw [h]; rfl
theorem eAnd_ok {a : Bool} {q : R Ev} (h : fa ρ = .ok (k, .bl a)) (hb : a = true → fb ρ = q) : eAnd fa fb ρ = if a = true then q else .ok (k, .bl false) := by
  unfold eAnd
  rw [h, R.bind_ok]
  show (if a = true then fb ρ else R.ok (k, D.bl a)) = _
  cases a with
  | true => rw [if_pos rfl, if_pos rfl]; exact hb rfl
  | false => rfl
theorem eAnd_b {a b : Bool} (h : fa ρ = .ok (.cl, .bl a)) (hb : a = true → fb ρ = .ok (.cl, .bl b)) : eAnd fa fb ρ = .ok (.cl, .bl (a && b)) := by
  rw [eAnd_ok h hb]
  cases a <;> rfl
theorem eOr_b {a b : Bool} (h : fa ρ = .ok (.cl, .bl a)) (hb : a = false → fb ρ = .ok (.cl, .bl b)) : eOr fa fb ρ = .ok (.cl, .bl (a || b)) := by
  unfold eOr
  rw [h, R.bind_ok]
  show (if a = true then R.ok (Kd.cl, D.bl a) else fb ρ) = _
  cases a with
  | true => rfl
  | false => rw [if_neg Bool.false_ne_true]; exact hb rfl
theorem callB {f : FD} {d : D} {b : Bool} (h : fa ρ = .ok (k, d)) (hf : f [d] = .ok (.cl, .bl b)) : eCall f 1 (aCons fa aNil) ρ = .ok (.cl, .bl b) := eCall_ok (aCons_ok h rfl) rfl rfl hf rfl
/-- all([p(x) for x in a text]) -/
theorem all_str {x : List Nat} {v : Nat} {el : EF} {p : Nat → Bool} (h : fa ρ = .ok (k, .str x)) (hz : x.length ≤ 90000) (hv : v < ρ.length)
    (he : ∀ c ∈ x, el ((wipeR ρ [v]).set v (some (false, .str [c]))) = .ok (.cl, .bl (p c))) : op1 (gAllAny true) (lcF (iVal fa) [v] (gNm v) tYesF el) ρ = .ok (.cl, .bl (x.all p)) := by
  have hl : v < (wipeR ρ [v]).length := by rw [wipeR_len]; exact hv
  refine op1_ok (lcF_ok (ys := (x.map p).map D.bl) (iv_str h) (by rw [List.length_map]; omega) ?_) ?_
  · rw [List.map_map]
    refine lcA_map (k := fun c => D.str [c]) fun c hc => turn_ok (e := (.cl, .bl (p c))) (ρ1 := (wipeR ρ [v]).set v (some (false, .str [c]))) (if_pos hl) rfl (he c hc) rfl
  · rw [gAll_ok]
    exact congrArg (fun b => R.ok (Kd.cl, D.bl b)) (all_id x p)
/-- all([f(x) for x in a list of texts]) -/
theorem all_lst {xs : List (List Nat)} {v : Nat} {el : EF} {p : List Nat → Bool} (h : iVal fa ρ = .ok (false, xs.map D.str)) (hz : xs.length ≤ 90001) (hv : v < ρ.length)
    (he : ∀ c ∈ xs, el ((wipeR ρ [v]).set v (some (false, .str c))) = .ok (.cl, .bl (p c))) : op1 (gAllAny true) (lcF (iVal fa) [v] (gNm v) tYesF el) ρ = .ok (.cl, .bl (xs.all p)) := by
  have hl : v < (wipeR ρ [v]).length := by rw [wipeR_len]; exact hv
  refine op1_ok (lcF_ok (ys := (xs.map p).map D.bl) h (by rw [List.length_map]; omega) ?_) ?_
  · rw [List.map_map]
    refine lcA_map (k := fun c => D.str c) fun c hc => turn_ok (e := (.cl, .bl (p c))) (ρ1 := (wipeR ρ [v]).set v (some (false, .str c))) (if_pos hl) rfl (he c hc) rfl
  · rw [gAll_ok, List.all_map]
    rfl
end
theorem are_signs_ok {p sg : List Nat} (hz : p.length ≤ 90000) : F_are_signs [.str p, .str sg] = .ok (.cl, .bl (p != [] && p.all fun c => sg.contains c)) := by
  refine fn_ok (ρ0 := [some (false, .str p), some (false, .str sg), none]) rfl rfl (s := .rt (.cl, .bl (p != [] && p.all fun c => sg.contains c))) (sRet_ok ?_) rfl
  refine eAnd_b (op2_ok (k1 := .cl) (x := .str p) rfl (k2 := .cl) (y := .str []) rfl gNe_s) fun _ => ?_
  exact all_str (fa := eVar 0) (k := .cl) rfl hz (by show 2 < 3; decide) fun c _ => op2_ok (k1 := .cl) (x := .str [c]) rfl (k2 := .cl) (y := .str sg) rfl (gIn_c c sg)
theorem gLe_n (a b : Nat) : gLe (.int a) (.int b) = .ok (.cl, .bl (decide (a ≤ b))) := by
  show R.ok (Kd.cl, D.bl (decide ((a : Int) ≤ b))) = _
  rw [show decide ((a : Int) ≤ b) = decide (a ≤ b) from decide_eq_decide.mpr Int.ofNat_le]
theorem gGt_n (a b : Nat) : gGt (.int a) (.int b) = .ok (.cl, .bl (decide (b < a))) := by
  show R.ok (Kd.cl, D.bl (decide ((b : Int) < a))) = _
  rw [show decide ((b : Int) < a) = decide (b < a) from decide_eq_decide.mpr Int.ofNat_lt]
theorem gGe_n (a b : Nat) : gGe (.int a) (.int b) = .ok (.cl, .bl (decide (b ≤ a))) := by
  show R.ok (Kd.cl, D.bl (decide ((b : Int) ≤ a))) = _
  rw [show decide ((b : Int) ≤ a) = decide (b ≤ a) from decide_eq_decide.mpr Int.ofNat_le]
theorem gLt_n (a b : Nat) : gLt (.int a) (.int b) = .ok (.cl, .bl (decide (a < b))) := by
  show R.ok (Kd.cl, D.bl (decide ((a : Int) < b))) = _
  rw [show decide ((a : Int) < b) = decide (a < b) from decide_eq_decide.mpr Int.ofNat_lt]
theorem gEq_n (a b : Nat) : gEq (.int a) (.int b) = .ok (.cl, .bl (a == b)) := by
  rw [gEq_i]
  congr 3
  rw [Bool.eq_iff_iff, beq_iff_eq, beq_iff_eq]
  exact Int.ofNat_inj
theorem gNe_n (a b : Nat) : gNe (.int a) (.int b) = .ok (.cl, .bl (!(a == b))) := by
  rw [gNe_i]
  congr 4
  rw [Bool.eq_iff_iff, beq_iff_eq, beq_iff_eq]
  exact Int.ofNat_inj
theorem spl_count (s : Nat) : ∀ (x acc : List Nat), (TL.spl [s] 0 acc x).length ≤ x.length + 1 ∧ ∀ p ∈ TL.spl [s] 0 acc x, p.length ≤ acc.length + x.length
  | [], acc => by
    rw [TL.spl_nil]
    exact ⟨Nat.le_refl _, fun p hp => by rw [List.mem_singleton.mp hp]; exact Nat.le_refl _⟩
  | d :: r, acc => by
    by_cases e : TL.pre [s] (d :: r) = true
    · rw [TL.spl_hit e]
      obtain ⟨h1, h2⟩ := spl_count s r []
      refine ⟨by rw [List.length_cons, List.length_cons]; exact Nat.succ_le_succ h1, fun p hp => ?_⟩
      rcases List.mem_cons.mp hp with z | z
      · rw [z, List.length_cons]; omega
      · have := h2 p z
        rw [List.length_nil] at this
        rw [List.length_cons]; omega
    · rw [TL.spl_miss (by simpa using e)]
      obtain ⟨h1, h2⟩ := spl_count s r (acc ++ [d])
      refine ⟨by rw [List.length_cons]; omega, fun p hp => ?_⟩
      have := h2 p hp
      rw [List.length_append, List.length_singleton] at this
      rw [List.length_cons]; omega
section
variable {ρ : Ro} {fa : EF} {k : Kd} {x : List Nat}
theorem split1 (s : Nat) (hs : s < 256) (h : fa ρ = .ok (k, .str x)) (hz : x.length ≤ 90000) : mth1 gSplit fa (eC (.str [s])) ρ = .ok (.fr, .lst ((TL.spl [s] 0 [] x).map D.str)) :=
  mth1_ok h (k2 := .cl) (y := .str [s]) rfl (gSplit_ok (by omega) (List.cons_ne_nil _ _) (by show (decide (s < 256) && true) = true; rw [decide_eq_true hs]; rfl))
theorem len60 (h : fa ρ = .ok (k, .str x)) (hz : x.length ≤ 90000) : op2 gLe (op1 gLen fa) (eC (.int 60)) ρ = .ok (.cl, .bl (decide (x.length ≤ 60))) :=
  op2_ok (lenS h (by omega)) (k2 := .cl) (y := .int ((60 : Nat) : Int)) rfl (gLe_n _ _)
end
theorem path_ok {x : List Nat} (hz : x.length ≤ 90000) : F_is_path [.str x] = .ok (.cl, .bl (isPath x)) := by
  refine fn_ok (ρ0 := [some (false, .str x), none]) rfl rfl (s := .rt (.cl, .bl (isPath x))) (sRet_ok ?_) rfl
  obtain ⟨c1, c2⟩ := spl_count 47 x []
  refine eAnd_b (len60 (k := .cl) rfl hz) fun _ => all_lst (iv_lst (split1 47 (by decide) (fa := eVar 0) (k := .cl) rfl hz)) (by omega) (by show 1 < 2; decide) fun p hp => ?_
  have := c2 p hp
  rw [List.length_nil] at this
  exact eCall_ok (aCons_ok (e := (.cl, .str p)) rfl (aCons_ok (e := (.cl, .str SIGNS)) rfl rfl)) rfl rfl (are_signs_ok (by omega)) rfl
def globPart (p : List Nat) : Bool := p == [42, 42] || (p != [] && p.all (fun c => (SIGNS ++ [42]).contains c) && !subS [42, 42] p)
theorem glob_part_ok {p : List Nat} (hz : p.length ≤ 90000) : F_is_glob_part [.str p] = .ok (.cl, .bl (globPart p)) := by
  refine fn_ok (ρ0 := [some (false, .str p)]) rfl rfl (s := .rt (.cl, .bl (globPart p))) (sRet_ok ?_) rfl
  refine eOr_b (op2_ok (k1 := .cl) (x := .str p) rfl (k2 := .cl) (y := .str [42, 42]) rfl gEq_s) fun _ => ?_
  refine eAnd_b (a := p != [] && p.all (fun c => (SIGNS ++ [42]).contains c)) (b := !subS [42, 42] p) ?_ ?_
  · exact eCall_ok (aCons_ok (e := (.cl, .str p)) rfl (aCons_ok (e := (.cl, .str (SIGNS ++ [42]))) (addS (x := SIGNS) (y := [42]) rfl rfl (by decide)) rfl)) rfl rfl (are_signs_ok hz) rfl
  · intro _
    exact op2_ok (g := gInX true) (k1 := .cl) (x := .str [42, 42]) rfl (k2 := .cl) (y := .str p) rfl gInX_ok
theorem glob_ok {x : List Nat} (hz : x.length ≤ 90000) : F_is_glob [.str x] = .ok (.cl, .bl (isGlob x)) := by
  refine fn_ok (ρ0 := [some (false, .str x), none]) rfl rfl (s := .rt (.cl, .bl (isGlob x))) (sRet_ok ?_) rfl
  obtain ⟨c1, c2⟩ := spl_count 47 x []
  refine eAnd_b (len60 (k := .cl) rfl hz) fun _ => all_lst (p := globPart) (iv_lst (split1 47 (by decide) (fa := eVar 0) (k := .cl) rfl hz)) (by omega) (by show 1 < 2; decide) fun p hp => ?_
  have := c2 p hp
  rw [List.length_nil] at this
  exact callB (k := .cl) (d := .str p) rfl (glob_part_ok (by omega))

/-! the law's own -/
/-- [x for x in a text if x not in ..] -/
theorem odd_ok {ρ : Ro} {fa : EF} {k : Kd} {x sg : List Nat} {v : Nat} (h : fa ρ = .ok (k, .str x)) (hz : x.length ≤ 90000) (hv : v < ρ.length) :
    lcF (iVal fa) [v] (gNm v) (t2 (gIn true) (eVar v) (eC (.str sg))) (eVar v) ρ = .ok (.fr, .lst ((x.filter fun c => !sg.contains c).map fun c => D.str [c])) := by
  have hl : v < (wipeR ρ [v]).length := by rw [wipeR_len]; exact hv
  refine lcF_ok (iv_str h) (by rw [List.length_map]; omega) ?_
  refine lcA_sift (k := fun c => D.str [c]) (p := fun c => !sg.contains c) fun c _ => ?_
  have hv1 : eVar v ((wipeR ρ [v]).set v (some (false, .str [c]))) = .ok (.cl, .str [c]) := by
    unfold eVar
    rw [List.getElem?_set_self hl]
  have ht : t2 (gIn true) (eVar v) (eC (.str sg)) ((wipeR ρ [v]).set v (some (false, .str [c]))) = .ok (!sg.contains c) := t2_ok (k := .cl) hv1 rfl (gNin_c c sg)
  cases e : !sg.contains c with
  | true =>
    rw [e] at ht
    exact turn_ok (e := (.cl, .str [c])) (if_pos hl) ht hv1 rfl
  | false =>
    rw [e] at ht
    exact turn_no (if_pos hl) ht
theorem filter_pos (x sg : List Nat) : decide (0 < (x.filter fun c => !sg.contains c).length) = !x.all fun c => sg.contains c := by
  induction x with
  | nil => rfl
  | cons c r ih =>
    rw [List.all_cons]
    cases e : sg.contains c with
    | true =>
      rw [List.filter_cons_of_neg (by rw [e]; exact Bool.false_ne_true), ih, Bool.true_and]
    | false =>
      rw [List.filter_cons_of_pos (by rw [e]; rfl), List.length_cons]
      rw [decide_eq_true (by omega)]
      rfl
def lpB : SF := (sIf (tOrF (t2 gEq (eVar 1) (eC (.str []))) (t2 gGt (op1 gLen (lcF (iVal (eVar 1)) [2] (gNm 2) (t2 (gIn true) (eVar 2) (eC (.str SIGNS))) (eVar 2))) (eC (.int 0)))) (sRet (eC (.bl false))) (sSkip))
theorem lp_turn {x p : List Nat} {y : Sl} (hz : p.length ≤ 90000) : lpB [some (false, .str x), some (false, .str p), y] = if (p != [] && p.all fun c => SIGNS.contains c) = true then .nx [some (false, .str x), some (false, .str p), y] else .rt (.cl, .bl false) := by
  have t1 : tOrF (t2 gEq (eVar 1) (eC (.str []))) (t2 gGt (op1 gLen (lcF (iVal (eVar 1)) [2] (gNm 2) (t2 (gIn true) (eVar 2) (eC (.str SIGNS))) (eVar 2))) (eC (.int 0))) [some (false, .str x), some (false, .str p), y] = .ok (!(p != [] && p.all fun c => SIGNS.contains c)) := by
    refine (tOr_ok (t2_ok (k := .cl) (k1 := .cl) (x := .str p) rfl (k2 := .cl) (y := .str []) rfl gEq_s) (t2_ok (k := .cl) (op1_ok (odd_ok (fa := eVar 1) (k := .cl) rfl hz (by show 2 < 3; decide)) rfl) (k2 := .cl) (y := .int ((0 : Nat) : Int)) rfl (gGt_n _ 0))).trans ?_
    rw [List.length_map, filter_pos, Bool.not_and]
    show R.ok (p == [] || _) = R.ok (!!(p == []) || _)
    rw [Bool.not_not]
  cases e : (p != [] && p.all fun c => SIGNS.contains c) with
  | true => rw [e] at t1; exact sIf_f t1 rfl
  | false => rw [e] at t1; exact sIf_t t1 rfl
theorem lp_loop {x : List Nat} {y : Sl} : ∀ (ps : List (List Nat)) (z : Sl), (∀ p ∈ ps, p.length ≤ 90000) → if (ps.all fun p => p != [] && p.all fun c => SIGNS.contains c) = true then ∃ z', forL (gNm 1) lpB (ps.map D.str) [some (false, .str x), z, y] = .nx [some (false, .str x), z', y]
    else forL (gNm 1) lpB (ps.map D.str) [some (false, .str x), z, y] = .rt (.cl, .bl false)
  | [], z, _ => ⟨z, rfl⟩
  | p :: ps, z, h => by
    have ht := lp_turn (x := x) (y := y) (h p List.mem_cons_self)
    have ih := lp_loop (x := x) (y := y) ps (some (false, .str p)) fun q hq => h q (List.mem_cons_of_mem _ hq)
    rw [List.all_cons]
    cases e : (p != [] && p.all fun c => SIGNS.contains c) with
    | false =>
      rw [e] at ht
      rw [Bool.false_and, if_neg Bool.false_ne_true]
      exact forL_r (ρ1 := [some (false, .str x), some (false, .str p), y]) rfl ht
    | true =>
      rw [e] at ht
      rw [Bool.true_and]
      cases e2 : (ps.all fun p => p != [] && p.all fun c => SIGNS.contains c) with
      | true =>
        rw [e2] at ih
        obtain ⟨z', ih⟩ := ih
        exact ⟨z', forL_n (ρ1 := [some (false, .str x), some (false, .str p), y]) rfl ht ih⟩
      | false =>
        rw [e2] at ih
        exact forL_n (ρ1 := [some (false, .str x), some (false, .str p), y]) rfl ht ih
theorem lpath_ok {x : List Nat} (hz : x.length ≤ 90000) : F__law_is_path [.str x] = .ok (.cl, .bl (isPath x)) := by
  obtain ⟨c1, c2⟩ := spl_count 47 x []
  have hp : ∀ p ∈ TL.spl [47] 0 [] x, p.length ≤ 90000 := fun p hp => by
    have := c2 p hp
    rw [List.length_nil] at this
    omega
  have t1 : t2 gGt (op1 gLen (eVar 0)) (eC (.int 60)) [some (false, .str x), none, none] = .ok (decide (60 < x.length)) := t2_ok (k := .cl) (lenS (k := .cl) rfl (by omega)) (k2 := .cl) (y := .int ((60 : Nat) : Int)) rfl (gGt_n _ 60)
  refine fn_ok (ρ0 := [some (false, .str x), none, none]) rfl rfl (s := .rt (.cl, .bl (isPath x))) ?_ rfl
  by_cases c : x.length ≤ 60
  · rw [decide_eq_false (by omega)] at t1
    refine sSeq_n (ρ1 := [some (false, .str x), none, none]) (sIf_f t1 rfl) ?_
    have L := lp_loop (x := x) (y := none) (TL.spl [47] 0 [] x) none hp
    have hP : isPath x = (TL.spl [47] 0 [] x).all fun p => p != [] && p.all fun c => SIGNS.contains c := by
      unfold isPath
      rw [decide_eq_true c, Bool.true_and]
    cases e : (TL.spl [47] 0 [] x).all fun p => p != [] && p.all fun c => SIGNS.contains c with
    | true =>
      rw [e] at L
      obtain ⟨z', L⟩ := L
      rw [hP, e]
      exact sSeq_n (sFor_ok (iv_lst (split1 47 (by decide) (fa := eVar 0) (k := .cl) rfl hz)) L) rfl
    | false =>
      rw [e] at L
      rw [hP, e]
      exact sSeq_r (sFor_ok (iv_lst (split1 47 (by decide) (fa := eVar 0) (k := .cl) rfl hz)) L)
  · rw [decide_eq_true (by omega)] at t1
    have : isPath x = false := by unfold isPath; rw [decide_eq_false c]; rfl
    rw [this]
    exact sSeq_r (sIf_t t1 rfl)
def lgB : SF := (sSeq (sSet 2 (lcF (iVal (eVar 1)) [3] (gNm 3) (t2 (gIn true) (eVar 3) (eC (.str (SIGNS ++ [42])))) (eVar 3))) <|
    sIf (tAndF (t2 gNe (eVar 1) (eC (.str [42, 42]))) (tOrF (t2 gEq (eVar 1) (eC (.str []))) (tOrF (t2 gGt (op1 gLen (eVar 2)) (eC (.int 0))) (t2 (gInX false) (eC (.str [42, 42])) (eVar 1))))) (sRet (eC (.bl false))) (sSkip))
theorem tAnd_b {ρ : Ro} {t u : TF} {a b : Bool} (h : t ρ = .ok a) (k : u ρ = .ok b) : tAndF t u ρ = .ok (a && b) := by cases a; exact tAnd_f h; exact tAnd_t h k
theorem lg_turn {x p : List Nat} {y w : Sl} (hz : p.length ≤ 90000) : ∃ y', lgB [some (false, .str x), some (false, .str p), y, w] = if globPart p = true then .nx [some (false, .str x), some (false, .str p), y', w] else .rt (.cl, .bl false) := by
  refine ⟨some (true, .lst ((p.filter fun c => !(SIGNS ++ [42]).contains c).map fun c => D.str [c])), ?_⟩
  have s1 : sSet 2 (lcF (iVal (eVar 1)) [3] (gNm 3) (t2 (gIn true) (eVar 3) (eC (.str (SIGNS ++ [42])))) (eVar 3)) [some (false, .str x), some (false, .str p), y, w] = .nx [some (false, .str x), some (false, .str p), some (true, .lst ((p.filter fun c => !(SIGNS ++ [42]).contains c).map fun c => D.str [c])), w] :=
    sSet_f (odd_ok (fa := eVar 1) (k := .cl) rfl hz (by show 3 < 4; decide)) (by show 2 < 4; decide)
  refine sSeq_n s1 ?_
  have t1 : tAndF (t2 gNe (eVar 1) (eC (.str [42, 42]))) (tOrF (t2 gEq (eVar 1) (eC (.str []))) (tOrF (t2 gGt (op1 gLen (eVar 2)) (eC (.int 0))) (t2 (gInX false) (eC (.str [42, 42])) (eVar 1)))) [some (false, .str x), some (false, .str p), some (true, .lst ((p.filter fun c => !(SIGNS ++ [42]).contains c).map fun c => D.str [c])), w] = .ok (!globPart p) := by
    refine (tAnd_b (t2_ok (k := .cl) (k1 := .cl) (x := .str p) rfl (k2 := .cl) (y := .str [42, 42]) rfl gNe_s) (tOr_ok (t2_ok (k := .cl) (k1 := .cl) (x := .str p) rfl (k2 := .cl) (y := .str []) rfl gEq_s)
      (tOr_ok (t2_ok (k := .cl) (op1_ok (k1 := .pk) (x := .lst ((p.filter fun c => !(SIGNS ++ [42]).contains c).map fun c => D.str [c])) rfl rfl) (k2 := .cl) (y := .int ((0 : Nat) : Int)) rfl (gGt_n _ 0)) (t2_ok (k := .cl) (k1 := .cl) (x := .str [42, 42]) rfl (k2 := .cl) (y := .str p) rfl gInX_ok)))).trans ?_
    rw [List.length_map, filter_pos]
    unfold globPart
    show R.ok (!(p == [42, 42]) && (p == [] || (!(p.all fun c => (SIGNS ++ [42]).contains c) || subS [42, 42] p))) = R.ok (!(p == [42, 42] || (!(p == []) && p.all (fun c => (SIGNS ++ [42]).contains c) && !subS [42, 42] p)))
    cases p == [42, 42] <;> cases p == [] <;> cases (p.all fun c => (SIGNS ++ [42]).contains c) <;> cases subS [42, 42] p <;> rfl
  cases e : globPart p with
  | true => rw [e] at t1; exact sIf_f t1 rfl
  | false => rw [e] at t1; exact sIf_t t1 rfl
theorem lg_loop {x : List Nat} {w : Sl} : ∀ (ps : List (List Nat)) (z y : Sl), (∀ p ∈ ps, p.length ≤ 90000) → if (ps.all globPart) = true then ∃ z' y', forL (gNm 1) lgB (ps.map D.str) [some (false, .str x), z, y, w] = .nx [some (false, .str x), z', y', w]
    else forL (gNm 1) lgB (ps.map D.str) [some (false, .str x), z, y, w] = .rt (.cl, .bl false)
  | [], z, y, _ => ⟨z, y, rfl⟩
  | p :: ps, z, y, h => by
    obtain ⟨y', ht⟩ := lg_turn (x := x) (y := y) (w := w) (h p List.mem_cons_self)
    have ih := lg_loop (x := x) (w := w) ps (some (false, .str p)) y' fun q hq => h q (List.mem_cons_of_mem _ hq)
    rw [List.all_cons]
    cases e : globPart p with
    | false =>
      rw [e] at ht
      rw [Bool.false_and, if_neg Bool.false_ne_true]
      exact forL_r (ρ1 := [some (false, .str x), some (false, .str p), y, w]) rfl ht
    | true =>
      rw [e] at ht
      rw [Bool.true_and]
      cases e2 : ps.all globPart with
      | true =>
        rw [e2] at ih
        obtain ⟨z', y2, ih⟩ := ih
        exact ⟨z', y2, forL_n (ρ1 := [some (false, .str x), some (false, .str p), y, w]) rfl ht ih⟩
      | false =>
        rw [e2] at ih
        exact forL_n (ρ1 := [some (false, .str x), some (false, .str p), y, w]) rfl ht ih
theorem lglob_ok {x : List Nat} (hz : x.length ≤ 90000) : F__law_is_glob [.str x] = .ok (.cl, .bl (isGlob x)) := by
  obtain ⟨c1, c2⟩ := spl_count 47 x []
  have hp : ∀ p ∈ TL.spl [47] 0 [] x, p.length ≤ 90000 := fun p hp => by
    have := c2 p hp
    rw [List.length_nil] at this
    omega
  refine fn_ok (ρ0 := [some (false, .str x), none, none, none]) rfl rfl (s := .rt (.cl, .bl (isGlob x))) ?_ rfl
  have L := lg_loop (x := x) (w := none) (TL.spl [47] 0 [] x) none none hp
  have hP : isGlob x = (decide (x.length ≤ 60) && (TL.spl [47] 0 [] x).all globPart) := rfl
  cases e : (TL.spl [47] 0 [] x).all globPart with
  | true =>
    rw [e] at L
    obtain ⟨z', y', L⟩ := L
    rw [hP, e, Bool.and_true]
    exact sSeq_n (sFor_ok (iv_lst (split1 47 (by decide) (fa := eVar 0) (k := .cl) rfl hz)) L) (sRet_ok (len60 (k := .cl) rfl hz))
  | false =>
    rw [e] at L
    rw [hP, e, Bool.and_false]
    exact sSeq_r (sFor_ok (iv_lst (split1 47 (by decide) (fa := eVar 0) (k := .cl) rfl hz)) L)
end PL
set_option Elab.async false
set_option linter.all false
set_option maxRecDepth 100000
set_option maxHeartbeats 4000000
/-! Nd81: the program's reader of set questions. -/
namespace PL
open PySem PySem.Spec L2

def toD : SQ → D
  | .one w => .tup [.str w]
  | .nm w x => .tup [.str w, .str x]
  | .led w q => .tup [.str w, toD q]
  | .two w a b => .tup [.str w, toD a, toD b]
theorem noL_toD : ∀ q : SQ, noL (toD q) = true
  | .one _ => rfl
  | .nm _ _ => rfl
  | .led w q => by
    show (true && (noL (toD q) && true)) = true
    rw [noL_toD q]; rfl
  | .two w a b => by
    show (true && (noL (toD a) && (noL (toD b) && true))) = true
    rw [noL_toD a, noL_toD b]; rfl
theorem isL_toD : ∀ q : SQ, isL (toD q) = false
  | .one _ => rfl
  | .nm _ _ => rfl
  | .led _ _ => rfl
  | .two _ _ _ => rfl
section
variable {s p r : List Nat} {a c : Nat} {i : Nat} {ρ : Ro}
theorem token_at (hs : s = p ++ r) (ha : a = p.length) (hz : s.length ≤ 90000) : F_Asking_token (As s a) [] = .ok (As s (a + (tok r).length)) (.str (tok r)) := by
  subst hs ha; exact token_ok hz
theorem meet_at (hs : s = p ++ r) (ha : a = p.length) (hz : s.length ≤ 90000) : F_Asking_meet (As s a) [.str [c]] = match eat c r with
    | some _ => .ok (As s (a + 1)) .non
    | none => .exc IQ := by
  subst hs ha; exact meet_ok hz
/-- name.token() -/
theorem x_token (hs : s = p ++ r) (ha : a = p.length) (hz : s.length ≤ 90000) (h : ρ[i]? = some (some (true, As s a))) : xApp i 0 (isOf "Asking" "token") F_Asking_token aNil ρ = .ok (ρ.set i (some (true, As s (a + (tok r).length)))) (.str (tok r)) :=
  xApp_ok (es := []) h is_token rfl rfl rfl rfl (token_at hs ha hz)
theorem x_meet_t {r' : List Nat} (hs : s = p ++ r) (ha : a = p.length) (hz : s.length ≤ 90000) (h : ρ[i]? = some (some (true, As s a))) (e : eat c r = some r') : xDo (xApp i 1 (isOf "Asking" "meet") F_Asking_meet (aCons (eC (.str [c])) aNil)) ρ = .nx (ρ.set i (some (true, As s (a + 1)))) := by
  have m := meet_at (c := c) hs ha hz
  rw [e] at m
  exact xDo_ok (xApp_ok (es := [(.cl, .str [c])]) h is_meet rfl rfl rfl rfl m)
theorem x_meet_f (hs : s = p ++ r) (ha : a = p.length) (hz : s.length ≤ 90000) (h : ρ[i]? = some (some (true, As s a))) (e : eat c r = none) : xDo (xApp i 1 (isOf "Asking" "meet") F_Asking_meet (aCons (eC (.str [c])) aNil)) ρ = .exc IQ := by
  have m := meet_at (c := c) hs ha hz
  rw [e] at m
  exact xDo_exc (xApp_ok (es := [(.cl, .str [c])]) h is_meet rfl rfl rfl rfl m)
end
theorem gInT_ok {x : List Nat} {ns : List (List Nat)} : gInT false (.str x) (.tup (ns.map D.str)) = .ok (.cl, .bl (ns.contains x)) := by
  show (match unS (ns.map D.str) with | some ns => R.ok (Kd.cl, D.bl (if false = true then !ns.contains x else ns.contains x)) | none => .bad) = _
  rw [unS_map]
  rfl
theorem cnt_app (a b : List Nat) : cnt (a ++ b) = cnt a + cnt b := List.countP_append
theorem cnt_sep {c : Nat} (b : List Nat) (h : sep c = true) : cnt (c :: b) = cnt b + 1 := List.countP_cons_of_pos h
theorem in_con {w : List Nat} {ns : List (List Nat)} (h : w ∈ ns) : ns.contains w = true := List.contains_iff_mem.mpr h
theorem in_ncon {w : List Nat} {ns : List (List Nat)} (h : w ∉ ns) : ns.contains w = false := by
  cases e : ns.contains w with
  | false => rfl
  | true => exact absurd (List.contains_iff_mem.mp e) h
/-- what a reader tells -/
def tell (s : List Nat) (a : Nat) : Option (SQ × List Nat) → XO
  | some (q, _) => .ok (As s (a + (txt q).length)) (toD q)
  | none => .exc IQ
abbrev FW (k : Nat) : FX := (F_Asking_whole_set_ k).1
abbrev FT (k : Nat) : FX := (F_Asking_whole_set_ k).2
def Whole (n : Nat) : Prop := ∀ (k : Nat) (s p r : List Nat) (a : Nat), 2 * n ≤ k → cnt r < n → s.length ≤ 90000 → s = p ++ r → a = p.length → FW k (As s a) [] = tell s a (rd n r)
section
variable {n k : Nat} {s p r : List Nat} {a : Nat} {i : Nat} {ρ : Ro}
theorem x_whole (ih : Whole n) (hk : 2 * n ≤ k) (hc : cnt r < n) (hz : s.length ≤ 90000) (hs : s = p ++ r) (ha : a = p.length) (h : ρ[i]? = some (some (true, As s a))) :
    xApp i 0 (isOf "Asking" "whole_set") (FW k) aNil ρ = xRes i ρ (tell s a (rd n r)) := xApp_ok (es := []) h is_whole rfl rfl rfl rfl (ih k s p r a hk hc hz hs ha)
theorem rd_open (r1 : List Nat) : rd (n + 1) (40 :: r1) = (rd n r1).bind fun p => (eat 32 p.2).bind fun r3 => if tok r3 ∈ TWO then (eat 32 (rst r3)).bind fun r4 => (rd n r4).bind fun q => (eat 41 q.2).bind fun r6 => some (.two (tok r3) p.1 q.1, r6) else none := by
  conv => lhs; unfold rd
  rw [eat_hit]
theorem two_ok {r1 : List Nat} (ih : Whole n) (hk : 2 * n ≤ k) (hc : cnt r1 < n) (hz : s.length ≤ 90000) (hs : s = p ++ 40 :: r1) (ha : a = p.length) : FT (k + 1) (As s a) [] = tell s a (rd (n + 1) (40 :: r1)) := by
  rw [rd_open]
  let O : Nat → Sl := fun j => some (true, As s j)
  have a1 : a + 1 = (p ++ [40]).length := by rw [List.length_append, ha]; rfl
  have s1 : s = (p ++ [40]) ++ r1 := by rw [hs]; simp
  have st1 : xDo (xApp 0 1 (isOf "Asking" "meet") F_Asking_meet (aCons (eC (.str [40])) aNil)) [O a, none, none, none] = .nx [O (a + 1), none, none, none] := x_meet_t hs ha hz rfl (eat_hit 40 r1)
  have w1 := x_whole (i := 0) (ρ := [O (a + 1), none, none, none]) ih hk hc hz s1 a1 rfl
  show fnX 4 0 (B_Asking_two_sets (FW k) (FT k)) (As s a) [] = _
  refine fnX_ok (ρ0 := [O a, none, none, none]) rfl rfl (xSeq_n st1 rfl) ?_
  cases e1 : rd n r1 with
  | none =>
    rw [e1] at w1
    rw [xSeq_e (xSet_exc w1)]
    rfl
  | some v =>
    obtain ⟨qa, r2⟩ := v
    rw [e1] at w1
    rw [Option.bind_some]
    dsimp only
    obtain ⟨_, t1⟩ := rd_sound n e1
    let b2 := a + 1 + (txt qa).length
    have a2 : b2 = (p ++ [40] ++ txt qa).length := by rw [List.length_append, ← a1]
    have s2 : s = (p ++ [40] ++ txt qa) ++ r2 := by rw [s1, t1]; simp
    have c2 : cnt r2 ≤ cnt r1 := by rw [t1, cnt_app]; omega
    rw [xSeq_n (ρ1 := [O b2, some (false, toD qa), none, none]) (xSet_ok w1) rfl]
    cases e2 : eat 32 r2 with
    | none =>
      rw [xSeq_e (x_meet_f s2 a2 hz rfl e2)]
      rfl
    | some r3 =>
      rw [Option.bind_some]
      have t2 : r2 = 32 :: r3 := eat_some e2
      have a3 : b2 + 1 = (p ++ [40] ++ txt qa ++ [32]).length := by rw [List.length_append, ← a2]; rfl
      have s3 : s = (p ++ [40] ++ txt qa ++ [32]) ++ r3 := by rw [s2, t2]; simp
      rw [xSeq_n (ρ1 := [O (b2 + 1), some (false, toD qa), none, none]) (x_meet_t s2 a2 hz rfl e2) rfl]
      let b4 := b2 + 1 + (tok r3).length
      rw [xSeq_n (ρ1 := [O b4, some (false, toD qa), some (false, .str (tok r3)), none]) (xSet_ok (x_token s3 a3 hz rfl)) rfl]
      have a4 : b4 = (p ++ [40] ++ txt qa ++ [32] ++ tok r3).length := by rw [List.length_append, ← a3]
      have s4 : s = (p ++ [40] ++ txt qa ++ [32] ++ tok r3) ++ rst r3 := by
        have := tok_rst r3
        rw [s3]
        conv => lhs; rw [← this]
        simp
      have hin : op2 (gInT false) (eVar 2) (eC (.tup (tup_TWO_SETS.map D.str))) [O b4, some (false, toD qa), some (false, .str (tok r3)), none] = .ok (.cl, .bl (tup_TWO_SETS.contains (tok r3))) := op2_ok (k1 := .cl) (x := .str (tok r3)) rfl (k2 := .cl) rfl gInT_ok
      by_cases hw : tok r3 ∈ TWO
      · rw [if_pos hw]
        rw [in_con hw] at hin
        rw [xSeq_n (xdem_ok hin) rfl]
        cases e3 : eat 32 (rst r3) with
        | none =>
          rw [xSeq_e (x_meet_f s4 a4 hz rfl e3)]
          rfl
        | some r4 =>
          rw [Option.bind_some]
          have t3 : rst r3 = 32 :: r4 := eat_some e3
          have a5 : b4 + 1 = (p ++ [40] ++ txt qa ++ [32] ++ tok r3 ++ [32]).length := by rw [List.length_append, ← a4]; rfl
          have s5 : s = (p ++ [40] ++ txt qa ++ [32] ++ tok r3 ++ [32]) ++ r4 := by rw [s4, t3]; simp
          have c4 : cnt r4 < n := by
            have q1 : cnt r2 = cnt r3 + 1 := by rw [t2]; exact cnt_sep r3 rfl
            have q2 : cnt r3 = cnt (tok r3) + cnt (rst r3) := by rw [← cnt_app, tok_rst]
            have q3 : cnt (rst r3) = cnt r4 + 1 := by rw [t3]; exact cnt_sep r4 rfl
            omega
          rw [xSeq_n (ρ1 := [O (b4 + 1), some (false, toD qa), some (false, .str (tok r3)), none]) (x_meet_t s4 a4 hz rfl e3) rfl]
          have w2 := x_whole (i := 0) (ρ := [O (b4 + 1), some (false, toD qa), some (false, .str (tok r3)), none]) ih hk c4 hz s5 a5 rfl
          cases e4 : rd n r4 with
          | none =>
            rw [e4] at w2
            rw [xSeq_e (xSet_exc w2)]
            rfl
          | some v =>
            obtain ⟨qb, r5⟩ := v
            rw [e4] at w2
            rw [Option.bind_some]
            dsimp only
            obtain ⟨_, t4⟩ := rd_sound n e4
            let b6 := b4 + 1 + (txt qb).length
            have a6 : b6 = (p ++ [40] ++ txt qa ++ [32] ++ tok r3 ++ [32] ++ txt qb).length := by rw [List.length_append, ← a5]
            have s6 : s = (p ++ [40] ++ txt qa ++ [32] ++ tok r3 ++ [32] ++ txt qb) ++ r5 := by rw [s5, t4]; simp
            rw [xSeq_n (ρ1 := [O b6, some (false, toD qa), some (false, .str (tok r3)), some (false, toD qb)]) (xSet_ok w2) rfl]
            cases e5 : eat 41 r5 with
            | none =>
              rw [xSeq_e (x_meet_f s6 a6 hz rfl e5)]
              rfl
            | some r6 =>
              rw [Option.bind_some, xSeq_n (ρ1 := [O (b6 + 1), some (false, toD qa), some (false, .str (tok r3)), some (false, toD qb)]) (x_meet_t s6 a6 hz rfl e5) rfl]
              have rt : xRet (xLift (disp (fun ds => (.cl, .tup ds)) (aCons (eVar 2) (aCons (eVar 1) (aCons (eVar 3) (aNil)))))) [O (b6 + 1), some (false, toD qa), some (false, .str (tok r3)), some (false, toD qb)] = .rt [O (b6 + 1), some (false, toD qa), some (false, .str (tok r3)), some (false, toD qb)] (toD (.two (tok r3) qa qb)) := rfl
              rw [xSeq_r rt]
              show XO.ok (As s (b6 + 1)) _ = XO.ok (As s (a + (txt (.two (tok r3) qa qb)).length)) _
              have : b6 + 1 = a + (txt (.two (tok r3) qa qb)).length := by
                show a + 1 + (txt qa).length + 1 + (tok r3).length + 1 + (txt qb).length + 1 = a + (40 :: (txt qa ++ 32 :: (tok r3 ++ 32 :: (txt qb ++ [41])))).length
                simp only [List.length_cons, List.length_append, List.length_nil]
                omega
              rw [this]
      · rw [if_neg hw]
        rw [in_ncon hw] at hin
        rw [xSeq_e (xdem_exc hin)]
        rfl
end
end PL
set_option Elab.async false
set_option linter.all false
set_option maxRecDepth 100000
set_option maxHeartbeats 4000000
/-! Ne81: whole_set, read_set, number_in, read_question, and the law's reading by them. -/
namespace PL
open PySem PySem.Spec L2

theorem rd_word {n : Nat} {r : List Nat} (e : eat 40 r = none) : rd (n + 1) r = if tok r ∈ PLAIN then some (.one (tok r), rst r) else (eat 32 (rst r)).bind fun r2 =>
        if tok r ∈ NAMED then (if good (tok r) (tok r2) = true then some (.nm (tok r) (tok r2), rst r2) else none)
        else if tok r ∈ LED then (rd n r2).bind fun q => some (.led (tok r) q.1, q.2) else none := by
  conv => lhs; unfold rd
  rw [e]
theorem kin_ok {ρ : Ro} {w : List Nat} (h : eVar 1 ρ = .ok (.cl, .str w)) : tE' (op1 (gKinF [PATH, FITS]) (eVar 1)) ρ = .ok (NAMED.contains w) := by
  unfold tE'
  rw [op1_ok h (show gKinF [PATH, FITS] (.str w) = .ok (.cl, .bl (NAMED.contains w)) from rfl)]
  rfl
theorem named_ok {s w n : List Nat} {b : Nat} {y : Sl} (hw : w ∈ NAMED) (hn : n.length ≤ 90000) : xNamed 3 1 2 PATH FITS F_is_path F_is_glob F_demand [some (true, As s b), some (false, .str w), some (false, .str n), y] =
    if good w n = true then .nx [some (true, As s b), some (false, .str w), some (false, .str n), none] else .exc IQ := by
  have hF : (if w = PATH then F_is_path [.str n] else if w = FITS then F_is_glob [.str n] else .bad) = .ok (.cl, .bl (good w n)) := by
    unfold good
    by_cases c : w = PATH
    · rw [if_pos c, if_pos c, path_ok hn]
    · have c2 : w = FITS := by
        rcases List.mem_cons.mp hw with z | z
        · exact absurd z c
        · exact List.mem_singleton.mp z
      rw [if_neg c, if_neg c, if_pos c2, glob_ok hn]
  show (match (if w = PATH then F_is_path [.str n] else if w = FITS then F_is_glob [.str n] else .bad) with
    | .ok (k, r) => if isL r = false ∧ 3 < 4 then (match F_demand [r] with
      | .ok _ => SX.nx (List.set _ 3 none)
      | .exc c => .exc c
      | .bad => .bad) else .bad
    | _ => .bad) = _
  rw [hF]
  dsimp only
  rw [if_pos ⟨rfl, by decide⟩]
  cases good w n <;> rfl
theorem whole_all : ∀ n : Nat, Whole n
  | 0 => fun k s p r a hk hc => absurd hc (Nat.not_lt_zero _)
  | n + 1 => by
    have ih := whole_all n
    intro k s p r a hk hc hz hs ha
    obtain ⟨m, rfl⟩ : ∃ m, k = m + 2 := ⟨k - 2, by omega⟩
    show fnX 4 0 (B_Asking_whole_set (FW (m + 1)) (FT (m + 1))) (As s a) [] = _
    let O : Nat → Sl := fun j => some (true, As s j)
    have sg : t2 gEq (eSl (op1 (gFld "Asking" "string") (eVar 0)) (oSome (op1 (gFld "Asking" "at") (eVar 0))) (oSome (op2 gAdd (op1 (gFld "Asking" "at") (eVar 0)) (eC (.int 1))))) (eC (.str [40])) [O a, none, none, none] = .ok (eat 40 r).isSome := by
      refine t2_ok (k := .cl) (sign_ok (p := p) (r := r) (by rw [← hs]; exact hz) (by rw [← hs, ← ha]; rfl)) (k2 := .cl) (y := .str [40]) rfl ?_
      rw [gEq_s, head_eq]
    refine fnX_ok (ρ0 := [O a, none, none, none]) rfl rfl rfl ?_
    cases e : eat 40 r with
    | some r1 =>
      rw [e] at sg
      have t1 : r = 40 :: r1 := eat_some e
      have T := two_ok (k := m) (r1 := r1) ih (by omega) (by have := cnt_sep (c := 40) r1 rfl; rw [t1] at hc; omega) hz (by rw [← t1]; exact hs) ha
      have T' : xApp 0 0 (isOf "Asking" "two_sets") (FT (m + 1)) aNil [O a, none, none, none] = xRes 0 [O a, none, none, none] (tell s a (rd (n + 1) (40 :: r1))) := xApp_ok (es := []) rfl is_two rfl rfl rfl rfl T
      rw [t1]
      cases q : rd (n + 1) (40 :: r1) with
      | none =>
        rw [q] at T'
        rw [show B_Asking_whole_set (FW (m + 1)) (FT (m + 1)) [O a, none, none, none] = .exc IQ from xSeq_e (xIf_t sg (xSeq_e (xRet_exc T')))]
        rfl
      | some v =>
        rw [q] at T'
        rw [show B_Asking_whole_set (FW (m + 1)) (FT (m + 1)) [O a, none, none, none] = .rt [O (a + (txt v.1).length), none, none, none] (toD v.1) from xSeq_r (xIf_t sg (xSeq_r (xRet_ok T')))]
        rfl
    | none =>
      rw [e] at sg
      rw [rd_word e]
      have st0 : xIf (t2 gEq (eSl (op1 (gFld "Asking" "string") (eVar 0)) (oSome (op1 (gFld "Asking" "at") (eVar 0))) (oSome (op2 gAdd (op1 (gFld "Asking" "at") (eVar 0)) (eC (.int 1))))) (eC (.str [40]))) (xSeq (xRet (xApp 0 0 (isOf "Asking" "two_sets") (FT (m + 1)) aNil)) <|
        xSkip) (xSkip) [O a, none, none, none] = .nx [O a, none, none, none] := xIf_f sg rfl
      have st1 : xSet 1 (xApp 0 0 (isOf "Asking" "token") (F_Asking_token) aNil) [O a, none, none, none] = .nx [O (a + (tok r).length), some (false, .str (tok r)), none, none] := xSet_ok (x_token hs ha hz rfl)
      unfold B_Asking_whole_set
      rw [xSeq_n st0 rfl, xSeq_n st1 rfl]
      have hin : t2 (gInT false) (eVar 1) (eC (.tup (tup_PLAIN_SETS.map D.str))) [O (a + (tok r).length), some (false, .str (tok r)), none, none] = .ok (tup_PLAIN_SETS.contains (tok r)) := t2_ok (k := .cl) (k1 := .cl) (x := .str (tok r)) rfl (k2 := .cl) rfl gInT_ok
      by_cases hp : tok r ∈ PLAIN
      · rw [if_pos hp]
        rw [in_con hp] at hin
        have rt : xRet (xLift (disp (fun ds => (.cl, .tup ds)) (aCons (eVar 1) (aNil)))) [O (a + (tok r).length), some (false, .str (tok r)), none, none] = .rt [O (a + (tok r).length), some (false, .str (tok r)), none, none] (toD (.one (tok r))) := rfl
        rw [xSeq_r (xIf_t hin (xSeq_r rt))]
        rfl
      · rw [if_neg hp]
        rw [in_ncon hp] at hin
        rw [xSeq_n (xIf_f (g := xSkip) hin rfl) rfl]
        have a1 : a + (tok r).length = (p ++ tok r).length := by rw [List.length_append, ha]
        have s1 : s = (p ++ tok r) ++ rst r := by rw [List.append_assoc, tok_rst]; exact hs
        cases e1 : eat 32 (rst r) with
        | none =>
          rw [xSeq_e (x_meet_f s1 a1 hz rfl e1)]
          rfl
        | some r2 =>
          rw [Option.bind_some]
          have t1 : rst r = 32 :: r2 := eat_some e1
          let b2 := a + (tok r).length + 1
          rw [xSeq_n (ρ1 := [O b2, some (false, .str (tok r)), none, none]) (x_meet_t s1 a1 hz rfl e1) rfl]
          have a2 : b2 = (p ++ tok r ++ [32]).length := by rw [List.length_append, ← a1]; rfl
          have s2 : s = (p ++ tok r ++ [32]) ++ r2 := by rw [s1, t1]; simp
          have c2 : cnt r2 < n := by
            have q1 : cnt r = cnt (tok r) + cnt (rst r) := by rw [← cnt_app, tok_rst]
            have q2 : cnt (rst r) = cnt r2 + 1 := by rw [t1]; exact cnt_sep r2 rfl
            omega
          have hk1 : tE' (op1 (gKinF [[112, 97, 116, 104], [102, 105, 116, 115]]) (eVar 1)) [O b2, some (false, .str (tok r)), none, none] = .ok (NAMED.contains (tok r)) := kin_ok rfl
          by_cases hn : tok r ∈ NAMED
          · rw [if_pos hn]
            rw [in_con hn] at hk1
            have zn : (tok r2).length ≤ 90000 := by
              have := congrArg List.length s2
              have q := congrArg List.length (tok_rst r2)
              rw [List.length_append] at this q
              omega
            have st3 : xSet 2 (xApp 0 0 (isOf "Asking" "token") (F_Asking_token) aNil) [O b2, some (false, .str (tok r)), none, none] = .nx [O (b2 + (tok r2).length), some (false, .str (tok r)), some (false, .str (tok r2)), none] := xSet_ok (x_token s2 a2 hz rfl)
            have N : xNamed 3 1 2 [112, 97, 116, 104] [102, 105, 116, 115] F_is_path F_is_glob F_demand [O (b2 + (tok r2).length), some (false, .str (tok r)), some (false, .str (tok r2)), none] =
              if good (tok r) (tok r2) = true then .nx [O (b2 + (tok r2).length), some (false, .str (tok r)), some (false, .str (tok r2)), none] else .exc IQ := named_ok hn zn
            by_cases hg : good (tok r) (tok r2) = true
            · rw [if_pos hg] at N ⊢
              have rt : xRet (xLift (disp (fun ds => (.cl, .tup ds)) (aCons (eVar 1) (aCons (eVar 2) (aNil))))) [O (b2 + (tok r2).length), some (false, .str (tok r)), some (false, .str (tok r2)), none] = .rt [O (b2 + (tok r2).length), some (false, .str (tok r)), some (false, .str (tok r2)), none] (toD (.nm (tok r) (tok r2))) := rfl
              rw [xSeq_r (xIf_t hk1 (xSeq_n st3 (xSeq_n N (xSeq_r rt))))]
              show XO.ok (As s (b2 + (tok r2).length)) _ = XO.ok (As s (a + (txt (.nm (tok r) (tok r2))).length)) _
              have : b2 + (tok r2).length = a + (txt (.nm (tok r) (tok r2))).length := by
                show a + (tok r).length + 1 + (tok r2).length = a + (tok r ++ 32 :: tok r2).length
                rw [List.length_append, List.length_cons]
                omega
              rw [this]
            · rw [if_neg hg] at N ⊢
              rw [xSeq_e (xIf_t hk1 (xSeq_n st3 (xSeq_e N)))]
              rfl
          · rw [if_neg hn]
            rw [in_ncon hn] at hk1
            rw [xSeq_n (xIf_f (g := xSkip) hk1 rfl) rfl]
            have hl1 : op2 (gInT false) (eVar 1) (eC (.tup (tup_LED_SETS.map D.str))) [O b2, some (false, .str (tok r)), none, none] = .ok (.cl, .bl (tup_LED_SETS.contains (tok r))) := op2_ok (k1 := .cl) (x := .str (tok r)) rfl (k2 := .cl) rfl gInT_ok
            by_cases hl : tok r ∈ LED
            · rw [if_pos hl]
              rw [in_con hl] at hl1
              rw [xSeq_n (xdem_ok hl1) rfl]
              have w1 := x_whole (k := m + 1) (i := 0) (ρ := [O b2, some (false, .str (tok r)), none, none]) ih (by omega) c2 hz s2 a2 rfl
              cases e2 : rd n r2 with
              | none =>
                rw [e2] at w1
                have rt : xRet (xTup (xaCons (xLift (eVar 1)) (xaCons (xApp 0 0 (isOf "Asking" "whole_set") (FW (m + 1)) aNil) (xaNil)))) [O b2, some (false, .str (tok r)), none, none] = .exc IQ := by
                  refine xRet_exc ?_
                  unfold xTup xaCons
                  show (match (match (match xApp 0 0 (isOf "Asking" "whole_set") (FW (m + 1)) aNil [O b2, some (false, .str (tok r)), none, none] with
                    | .ok ρ1 d => (match xaNil ρ1 with
                      | .ok ρ2 ds => XAR.ok ρ2 (d :: ds)
                      | .exc c => .exc c
                      | .bad => .bad)
                    | .exc c => .exc c
                    | .bad => .bad) with
                    | .ok ρ2 ds => XAR.ok ρ2 (D.str (tok r) :: ds)
                    | .exc c => .exc c
                    | .bad => .bad) with
                    | .ok ρ' ds => if ds.length ≤ 16777216 then XR.ok ρ' (.tup ds) else .bad
                    | .exc c => .exc c
                    | .bad => .bad) = _
                  rw [w1]
                  rfl
                rw [xSeq_e rt]
                rfl
              | some v =>
                obtain ⟨q, r3⟩ := v
                rw [e2] at w1
                have rt : xRet (xTup (xaCons (xLift (eVar 1)) (xaCons (xApp 0 0 (isOf "Asking" "whole_set") (FW (m + 1)) aNil) (xaNil)))) [O b2, some (false, .str (tok r)), none, none] = .rt [O (b2 + (txt q).length), some (false, .str (tok r)), none, none] (toD (.led (tok r) q)) := by
                  refine xRet_ok ?_
                  unfold xTup xaCons
                  show (match (match (match xApp 0 0 (isOf "Asking" "whole_set") (FW (m + 1)) aNil [O b2, some (false, .str (tok r)), none, none] with
                    | .ok ρ1 d => (match xaNil ρ1 with
                      | .ok ρ2 ds => XAR.ok ρ2 (d :: ds)
                      | .exc c => .exc c
                      | .bad => .bad)
                    | .exc c => .exc c
                    | .bad => .bad) with
                    | .ok ρ2 ds => XAR.ok ρ2 (D.str (tok r) :: ds)
                    | .exc c => .exc c
                    | .bad => .bad) with
                    | .ok ρ' ds => if ds.length ≤ 16777216 then XR.ok ρ' (.tup ds) else .bad
                    | .exc c => .exc c
                    | .bad => .bad) = _
                  rw [w1]
                  rfl
                rw [xSeq_r rt]
                show XO.ok (As s (b2 + (txt q).length)) _ = XO.ok (As s (a + (txt (.led (tok r) q)).length)) _
                have : b2 + (txt q).length = a + (txt (.led (tok r) q)).length := by
                  show a + (tok r).length + 1 + (txt q).length = a + (tok r ++ 32 :: txt q).length
                  rw [List.length_append, List.length_cons]
                  omega
                rw [this]
            · rw [if_neg hl]
              rw [in_ncon hl] at hl1
              rw [xSeq_e (xdem_exc hl1)]
              rfl

/-! read_set -/
section
variable {ρ ρ' : Ro} {f g : SF} {fe : EF} {k : Kd} {c : Str}
theorem sSeq_x (h : f ρ = .exc c ρ') : sSeq f g ρ = .exc c ρ' := by unfold sSeq; rw [h]
theorem sDrop_ok {e : Ev} (h : fe ρ = .ok e) : sDrop fe ρ = .nx ρ := by unfold sDrop; rw [h]; rfl
theorem sDrop_x (h : fe ρ = .exc c) : sDrop fe ρ = .exc c ρ := by unfold sDrop; rw [h]; rfl
theorem sRet_x (h : fe ρ = .exc c) : sRet fe ρ = .exc c ρ := by unfold sRet; rw [h]; rfl
theorem sdem_ok (h : fe ρ = .ok (k, .bl true)) : sDrop (eCall F_demand 1 (aCons fe aNil)) ρ = .nx ρ := sDrop_ok (dem_ok h)
theorem sdem_x (h : fe ρ = .ok (k, .bl false)) : sDrop (eCall F_demand 1 (aCons fe aNil)) ρ = .exc IQ ρ := sDrop_x (dem_exc h)
end
theorem make_ok {ρ : Ro} {t : List Nat} (h : eVar 0 ρ = .ok (.cl, .str t)) : eMake "Asking" 1 F_Asking___init__ (aCons (eVar 0) aNil) ρ = .ok (.fr, As t 0) := by
  unfold eMake
  rw [aCons_ok h (show aNil ρ = .ok [] from rfl), R.bind_ok, if_pos ⟨rfl, rfl⟩]
  show (match F_Asking___init__ (.obj "Asking" [] []) [.str t] with
    | .ok d .non => R.ok (Kd.fr, d)
    | _ => .bad) = _
  rw [init_ok]
theorem read_set_ok {t : List Nat} (hz : t.length ≤ 90000) (hc : cnt t < 110) : F_read_set [.str t] = match RQs 110 t with
    | some q => .ok (.cl, toD q)
    | none => .exc IQ := by
  have e1 : sSet 1 (eMake "Asking" 1 (F_Asking___init__) (aCons (eVar 0) (aNil))) [some (false, .str t), none, none] = .nx [some (false, .str t), some (true, As t 0), none] := sSet_f (make_ok rfl) (by show 1 < 3; decide)
  have w := x_whole (n := 110) (k := 220) (i := 1) (s := t) (p := []) (r := t) (a := 0) (ρ := [some (false, .str t), some (true, As t 0), none]) (whole_all 110) (Nat.le_refl _) hc hz rfl rfl rfl
  show fnD 3 1 B_read_set [.str t] = _
  unfold RQs
  cases e : rd 110 t with
  | none =>
    rw [e] at w
    have e2 : sSetX 2 1 (xApp 1 0 (isOf "Asking" "whole_set") (FW 220) aNil) [some (false, .str t), some (true, As t 0), none] = .exc IQ [some (false, .str t), none, none] := by
      unfold sSetX
      rw [w]
      rfl
    exact fn_ok (ρ0 := [some (false, .str t), none, none]) rfl rfl (sSeq_n e1 (sSeq_x e2)) rfl
  | some v =>
    obtain ⟨q, r'⟩ := v
    rw [e] at w
    obtain ⟨_, ht⟩ := rd_sound 110 e
    have e2 : sSetX 2 1 (xApp 1 0 (isOf "Asking" "whole_set") (FW 220) aNil) [some (false, .str t), some (true, As t 0), none] = .nx [some (false, .str t), some (true, As t (0 + (txt q).length)), some (false, toD q)] := by
      unfold sSetX
      rw [w]
      rfl
    have e3 : op2 gEq (op1 (gFld "Asking" "at") (eVar 1)) (op1 gLen (eVar 0)) [some (false, .str t), some (true, As t (0 + (txt q).length)), some (false, toD q)] = .ok (.cl, .bl ((0 + (txt q).length) == t.length)) :=
      op2_ok (at_ok (s := t) (k := .pk) rfl) (lenS (x := t) (k := .cl) rfl (by omega)) (gEq_n _ _)
    cases r' with
    | nil =>
      have : ((0 + (txt q).length) == t.length) = true := by
        rw [beq_iff_eq, ht, List.append_nil, Nat.zero_add]
      rw [this] at e3
      exact fn_ok (ρ0 := [some (false, .str t), none, none]) rfl rfl (sSeq_n e1 (sSeq_n e2 (sSeq_n (sdem_ok e3) rfl))) rfl
    | cons c r'' =>
      have : ((0 + (txt q).length) == t.length) = false := by
        refine beq_false_of_ne fun z => ?_
        have := congrArg List.length ht
        rw [List.length_append, List.length_cons] at this
        omega
      rw [this] at e3
      exact fn_ok (ρ0 := [some (false, .str t), none, none]) rfl rfl (sSeq_n e1 (sSeq_n e2 (sSeq_x (sdem_x e3)))) rfl
end PL
set_option Elab.async false
set_option linter.all false
set_option maxRecDepth 100000
set_option maxHeartbeats 4000000
/-! Nf81: numbers, and whole questions as the program reads them. -/
namespace PL
open PySem PySem.Spec L2

def DEC : List Nat := [48, 49, 50, 51, 52, 53, 54, 55, 56, 57]
def okNum (w : List Nat) : Bool := (decide (1 ≤ w.length) && decide (w.length ≤ 2)) && (w.all (fun c => DEC.contains c) && (w == [48] || !(w.take 1 == [48])))
def valN : List Nat → Nat
  | [c] => c - 48
  | [c, d] => 10 * (c - 48) + (d - 48)
  | _ => 0
def numW : List (List Nat) := (List.range 13).map TL.numL
def numL12 : List (List Nat) := [[48], [49], [50], [51], [52], [53], [54], [55], [56], [57], [49, 48], [49, 49], [49, 50]]
theorem numW_eq : numW = numL12 := by decide +kernel
theorem num_all : numL12.all (fun w => okNum w && decide (valN w ≤ 12)) = true := by decide
theorem num_1 : ∀ i : Fin 10, (okNum [48 + i.val] && decide (valN [48 + i.val] ≤ 12)) = true → numL12.contains [48 + i.val] = true := by decide
theorem num_2 : ∀ i j : Fin 10, (okNum [48 + i.val, 48 + j.val] && decide (valN [48 + i.val, 48 + j.val] ≤ 12)) = true → numL12.contains [48 + i.val, 48 + j.val] = true := by decide
theorem dec_dig {c : Nat} (h : DEC.contains c = true) : dig c = true := by
  have : DEC.all (fun c => dig c) = true := by decide
  exact List.all_eq_true.mp this c (List.contains_iff_mem.mp h)
theorem okNum_2 {w : List Nat} (h : okNum w = true) : (∃ c, w = [c] ∧ dig c = true) ∨ ∃ c d, w = [c, d] ∧ dig c = true ∧ dig d = true := by
  unfold okNum at h
  rw [Bool.and_eq_true, Bool.and_eq_true, Bool.and_eq_true, decide_eq_true_eq, decide_eq_true_eq] at h
  match w, h with
  | [], h => exact absurd h.1.1 (by decide)
  | [c], h => exact .inl ⟨c, rfl, dec_dig (List.all_eq_true.mp h.2.1 c (by simp))⟩
  | [c, d], h => exact .inr ⟨c, d, rfl, dec_dig (List.all_eq_true.mp h.2.1 c (by simp)), dec_dig (List.all_eq_true.mp h.2.1 d (by simp))⟩
  | c :: d :: e :: r, h => exact absurd h.1.2 (by simp [List.length_cons])
theorem num_iff (w : List Nat) : (okNum w && decide (valN w ≤ 12)) = numW.contains w := by
  rw [numW_eq, Bool.eq_iff_iff]
  refine ⟨fun h => ?_, fun h => List.all_eq_true.mp num_all w (List.contains_iff_mem.mp h)⟩
  have h' := h
  rw [Bool.and_eq_true] at h'
  rcases okNum_2 h'.1 with ⟨c, e, hc⟩ | ⟨c, d, e, hc, hd⟩
  · obtain ⟨i, rfl⟩ := dig_fin hc
    subst e
    exact num_1 i h
  · obtain ⟨i, rfl⟩ := dig_fin hc
    obtain ⟨j, rfl⟩ := dig_fin hd
    subst e
    exact num_2 i j h
theorem gIntS_ok {w : List Nat} (h : okNum w = true) : gIntS (.str w) = .ok (.cl, .int (valN w : Nat)) := by
  rcases okNum_2 h with ⟨c, e, hc⟩ | ⟨c, d, e, hc, hd⟩
  · subst e; exact if_pos hc
  · subst e; exact if_pos ⟨hc, hd⟩
theorem num_e {ρ : Ro} {w : List Nat} {y : Sl} (hz : w.length ≤ 90000) : (eAnd (chn gLe gLe (eC (.int 1)) (op1 gLen (eVar 0)) (eC (.int 2))) (eAnd (op1 (gAllAny true) (lcF (iVal (eVar 0)) [1] (gNm 1) (tYesF) (op2 (gIn false) (eVar 1) (eC (.str [48, 49, 50, 51, 52, 53, 54, 55, 56, 57]))))) (eOr (op2 gEq (eVar 0) (eC (.str [48]))) (op2 gNe (op2 gIx (eVar 0) (eC (.int 0))) (eC (.str [48])))))) [some (false, .str w), y] = .ok (.cl, .bl (okNum w)) := by
  unfold okNum
  refine eAnd_b (chn_ok (k1 := .cl) (x := .int ((1 : Nat) : Int)) rfl (lenS (k := .cl) rfl (by omega)) (gLe_n 1 _) (k4 := .cl) (z := .int ((2 : Nat) : Int)) rfl (gLe_n _ 2)) fun h1 => ?_
  refine eAnd_b (all_str (fa := eVar 0) (k := .cl) rfl hz (by show 1 < 2; decide) fun c _ => op2_ok (k1 := .cl) (x := .str [c]) rfl (k2 := .cl) rfl (gIn_c c DEC)) fun _ => ?_
  refine eOr_b (op2_ok (k1 := .cl) (x := .str w) rfl (k2 := .cl) (y := .str [48]) rfl gEq_s) fun _ => ?_
  cases w with
  | nil => cases h1
  | cons c r => exact op2_ok (ixS (x := c :: r) (n := 0) (c := c) (k := .cl) (k2 := .cl) rfl rfl (by omega) rfl) (k2 := .cl) (y := .str [48]) rfl gNe_s
theorem number_ok {w : List Nat} (hz : w.length ≤ 90000) : F_number_in [.str w] = if w ∈ numW then .ok (.cl, .int (valN w : Nat)) else .exc IQ := by
  have e1 := num_e (ρ := []) (w := w) (y := none) hz
  have N := num_iff w
  show fnD 2 1 B_number_in [.str w] = _
  cases h : okNum w with
  | false =>
    rw [h, Bool.false_and] at N
    rw [if_neg fun m => by rw [in_con m] at N; cases N]
    rw [h] at e1
    exact fn_ok (ρ0 := [some (false, .str w), none]) rfl rfl (sSeq_x (sdem_x e1)) rfl
  | true =>
    rw [h] at e1
    have g := gIntS_ok h
    have e2 : op2 gLe (op1 gIntS (eVar 0)) (eC (.int 12)) [some (false, .str w), none] = .ok (.cl, .bl (decide (valN w ≤ 12))) := op2_ok (op1_ok (k1 := .cl) (x := .str w) rfl g) (k2 := .cl) (y := .int ((12 : Nat) : Int)) rfl (gLe_n _ 12)
    rw [h, Bool.true_and] at N
    cases h2 : decide (valN w ≤ 12) with
    | false =>
      rw [h2] at N e2
      rw [if_neg fun m => by rw [in_con m] at N; cases N]
      exact fn_ok (ρ0 := [some (false, .str w), none]) rfl rfl (sSeq_n (sdem_ok e1) (sSeq_x (sdem_x e2))) rfl
    | true =>
      rw [h2] at N e2
      rw [if_pos (List.contains_iff_mem.mp N.symm)]
      exact fn_ok (ρ0 := [some (false, .str w), none]) rfl rfl (sSeq_n (sdem_ok e1) (sSeq_n (sdem_ok e2) (sRet_ok (op1_ok (k1 := .cl) (x := .str w) rfl g)))) rfl

/-! questions -/
def SET : List Nat := [115, 101, 116]
def WAY : List Nat := [119, 97, 121]
abbrev wds (s : List Nat) : List (List Nat) := TL.spl [32] 0 [] s
/-- a question that is no set question -/
def other : List (List Nat) → Option D
  | [w, a, b] => if w = WAY ∧ isPath a = true ∧ isPath b = true then some (.tup [.str w, .str a, .str b]) else none
  | [w, a, b, n] => if w ∈ tup_COUNTED ∧ isPath a = true ∧ isPath b = true ∧ n ∈ numW then some (.tup [.str w, .str a, .str b, .int (valN n : Nat)]) else none
  | _ => none
def inW (w : List Nat) (ps : List (List Nat)) (s : List Nat) : Option D :=
  if w = SET then (RQs 110 (s.drop 4)).map fun q => .tup [.str SET, toD q] else other (w :: ps)
def Qs (s : List Nat) : Option D := if s.length ≤ 400 then (match wds s with
  | [] => none
  | w :: ps => inW w ps s) else none
def oQ : Option D → R Ev
  | some d => .ok (.cl, d)
  | none => .exc IQ
theorem cut_cases (s : List Nat) : (32 ∉ s ∧ wds s = [s] ∧ TL.par [32] [] s = none) ∨ ∃ p r, s = p ++ 32 :: r ∧ 32 ∉ p ∧ wds s = p :: wds r ∧ TL.par [32] [] s = some (p, r) := by
  by_cases h : 32 ∈ s
  · obtain ⟨p, r, e, n⟩ := List.eq_append_cons_of_mem h
    refine .inr ⟨p, r, e, n, ?_, ?_⟩
    · subst e
      exact (TL.spl_part1 (s := 32) (S := []) (acc := []) n).trans rfl
    · subst e
      exact (TL.par_part1 (s := 32) (S := []) (acc := []) n).trans rfl
  · exact .inl ⟨h, (TL.spl_last1 (s := 32) (S := []) (acc := []) h).trans rfl, TL.par_none1 (s := 32) (S := []) (acc := []) h⟩
end PL
set_option Elab.async false
set_option linter.all false
set_option maxRecDepth 100000
set_option maxHeartbeats 4000000
/-! Ng81: whole questions as the program reads them. -/
namespace PL
open PySem PySem.Spec L2

def tailE : EF := (op2 gCatT (disp (fun ds => (.cl, .tup ds)) (aCons (eVar 1) (aCons (op2 gIx (eVar 4) (eC (.int 0))) (aCons (op2 gIx (eVar 4) (eC (.int 1))) (aNil))))) (op1 gTuple (lcXF (iVal (eSl (eVar 4) (oSome (eC (.int 2))) (oNo))) [5] (gNm 5) (F_number_in) (aCons (eVar 5) (aNil)))))
/-- the last two demands and the return -/
def tailS : SF :=
    sSeq (sDrop (eCall (F_demand) 1 (aCons (eOr (eAnd (op2 gEq (eVar 1) (eC (.str [119, 97, 121]))) (op2 gEq (op1 gLen (eVar 4)) (eC (.int 2)))) (eAnd (op2 (gInT false) (eVar 1) (eC (.tup (tup_COUNTED.map D.str)))) (op2 gEq (op1 gLen (eVar 4)) (eC (.int 3))))) (aNil)))) <|
    sSeq (sDrop (eCall (F_demand) 1 (aCons (eAnd (eCall (F_is_path) 1 (aCons (op2 gIx (eVar 4) (eC (.int 0))) (aNil))) (eCall (F_is_path) 1 (aCons (op2 gIx (eVar 4) (eC (.int 1))) (aNil)))) (aNil)))) <|
    sRet tailE
theorem op2_xr {ρ : Ro} {g : D → D → R Ev} {fa fb : EF} {e : Ev} {c : Str} (h : fa ρ = .ok e) (k : fb ρ = .exc c) : op2 g fa fb ρ = .exc c := by unfold op2; rw [h, R.bind_ok, k]; rfl
theorem op1_x {ρ : Ro} {g : D → R Ev} {fa : EF} {c : Str} (k : fa ρ = .exc c) : op1 g fa ρ = .exc c := by unfold op1; rw [k]; rfl
theorem gIx_t0 {xs : List (List Nat)} {i : Nat} {x : List Nat} (h : xs[i]? = some x) : gIx (.lst (xs.map D.str)) (.int i) = .ok (.cl, .str x) := gIx_l (by rw [List.getElem?_map, h]; rfl)
section
variable {s w x y : List Nat} {a b c : Sl} {ps : List (List Nat)}
abbrev Rq (s w : List Nat) (b c : Sl) (ps : List (List Nat)) : Ro := [some (false, .str s), some (false, .str w), b, c, some (true, .lst (ps.map D.str)), none]
theorem ixP {i : Nat} {x : List Nat} (h : ps[i]? = some x) : op2 gIx (eVar 4) (eC (.int i)) (Rq s w b c ps) = .ok (.cl, .str x) := op2_ok (k1 := .pk) (x := .lst (ps.map D.str)) rfl (k2 := .cl) (y := .int i) rfl (gIx_t0 h)
theorem lenP : op1 gLen (eVar 4) (Rq s w b c ps) = .ok (.cl, .int (ps.length : Nat)) := by
  refine op1_ok (k1 := .pk) (x := .lst (ps.map D.str)) rfl ?_
  show R.ok (Kd.cl, D.int ((ps.map D.str).length : Nat)) = _
  rw [List.length_map]
theorem dem3 : (eOr (eAnd (op2 gEq (eVar 1) (eC (.str [119, 97, 121]))) (op2 gEq (op1 gLen (eVar 4)) (eC (.int 2)))) (eAnd (op2 (gInT false) (eVar 1) (eC (.tup (tup_COUNTED.map D.str)))) (op2 gEq (op1 gLen (eVar 4)) (eC (.int 3))))) (Rq s w b c ps) = .ok (.cl, .bl ((w == WAY && ps.length == 2) || (tup_COUNTED.contains w && ps.length == 3))) :=
  eOr_b (eAnd_b (op2_ok (k1 := .cl) (x := .str w) rfl (k2 := .cl) (y := .str WAY) rfl gEq_s) fun _ => op2_ok lenP (k2 := .cl) (y := .int ((2 : Nat) : Int)) rfl (gEq_n _ 2)) fun _ =>
    eAnd_b (op2_ok (k1 := .cl) (x := .str w) rfl (k2 := .cl) rfl gInT_ok) fun _ => op2_ok lenP (k2 := .cl) (y := .int ((3 : Nat) : Int)) rfl (gEq_n _ 3)
theorem dem4 (hx : ps[0]? = some x) (hy : ps[1]? = some y) (zx : x.length ≤ 90000) (zy : y.length ≤ 90000) : (eAnd (eCall (F_is_path) 1 (aCons (op2 gIx (eVar 4) (eC (.int 0))) (aNil))) (eCall (F_is_path) 1 (aCons (op2 gIx (eVar 4) (eC (.int 1))) (aNil)))) (Rq s w b c ps) = .ok (.cl, .bl (isPath x && isPath y)) :=
  eAnd_b (callB (ixP hx) (path_ok zx)) fun _ => callB (ixP hy) (path_ok zy)
theorem head3 (hx : ps[0]? = some x) (hy : ps[1]? = some y) : disp (fun ds => (.cl, .tup ds)) (aCons (eVar 1) (aCons (op2 gIx (eVar 4) (eC (.int 0))) (aCons (op2 gIx (eVar 4) (eC (.int 1))) (aNil)))) (Rq s w b c ps) = .ok (.cl, .tup [.str w, .str x, .str y]) :=
  disp_ok (es := [(.cl, .str w), (.cl, .str x), (.cl, .str y)]) (aCons_ok rfl (aCons_ok (ixP hx) (aCons_ok (ixP hy) rfl))) rfl (by show 3 ≤ 16777216; decide) rfl
theorem iv2 : iVal (eSl (eVar 4) (oSome (eC (.int 2))) (oNo)) (Rq s w b c ps) = .ok (false, (ps.drop 2).map D.str) := by
  have := iv_lst (slFromL (n := 2) (fa := eVar 4) (fl := eC (.int 2)) (ρ := Rq s w b c ps) (k := .pk) (k2 := .cl) (x := ps.map D.str) rfl rfl)
  rw [← List.map_drop] at this
  exact this
theorem tail_2 (hx : isPath x = true) (hy : isPath y = true) : tailE (Rq s w b c [x, y]) = .ok (.cl, .tup [.str w, .str x, .str y]) := by
  refine op2_ok (head3 (x := x) (y := y) rfl rfl) (op1_ok (k1 := .fr) (x := .lst []) ?_ rfl) ?_
  · rfl
  · rfl
theorem tail_3 {n : List Nat} (hz : n.length ≤ 90000) : tailE (Rq s w b c [x, y, n]) = if n ∈ numW then .ok (.cl, .tup [.str w, .str x, .str y, .int (valN n : Nat)]) else .exc IQ := by
  have N := number_ok hz
  have i3 : iVal (eSl (eVar 4) (oSome (eC (.int 2))) (oNo)) (Rq s w b c [x, y, n]) = .ok (false, [D.str n]) := iv2
  by_cases m : n ∈ numW
  · rw [if_pos m] at N ⊢
    refine op2_ok (head3 (x := x) (y := y) rfl rfl) (op1_ok (k1 := .fr) (x := .lst [.int (valN n : Nat)]) ?_ rfl) rfl
    have L : lcF (iVal (eSl (eVar 4) (oSome (eC (.int 2))) (oNo))) [5] (gNm 5) tYesF (eCall F_number_in 1 (aCons (eVar 5) aNil)) (Rq s w b c [x, y, n]) = .ok (.fr, .lst [.int (valN n : Nat)]) := by
      refine lcF_ok i3 (by show 1 ≤ 16777216; decide) ?_
      refine lcA_all (g := fun _ => .int (valN n : Nat)) fun d hd => ?_
      rw [List.mem_singleton.mp hd]
      exact turn_ok (e := (.cl, .int (valN n : Nat))) rfl rfl (eCall_ok (aCons_ok (e := (.cl, .str n)) rfl rfl) rfl rfl N rfl) rfl
    unfold lcXF
    rw [L]
  · rw [if_neg m] at N ⊢
    unfold tailE
    have L : lcF (iVal (eSl (eVar 4) (oSome (eC (.int 2))) (oNo))) [5] (gNm 5) tYesF (eCall F_number_in 1 (aCons (eVar 5) aNil)) (Rq s w b c [x, y, n]) = .bad := by
      unfold lcF
      rw [i3, R.bind_ok]
      show (if (1 : Nat) ≤ 16777216 then _ else _) = _
      rw [if_pos (by decide)]
      have T : turnD (gNm 5) tYesF (eCall F_number_in 1 (aCons (eVar 5) aNil)) (wipeR (Rq s w b c [x, y, n]) [5]) (D.str n) = .bad := by
        have E : eCall F_number_in 1 (aCons (eVar 5) aNil) [some (false, .str s), some (false, .str w), b, c, some (true, .lst ([x, y, n].map D.str)), some (false, .str n)] = .exc IQ := eCall_exc (es := [(.cl, .str n)]) (aCons_ok (e := (.cl, .str n)) rfl rfl) rfl rfl N
        show R.bind (R.calm (eCall F_number_in 1 (aCons (eVar 5) aNil) [some (false, .str s), some (false, .str w), b, c, some (true, .lst ([x, y, n].map D.str)), some (false, .str n)])) _ = _
        rw [E]
        rfl
      show R.bind (R.calm (R.bind (turnD (gNm 5) tYesF (eCall F_number_in 1 (aCons (eVar 5) aNil)) (wipeR (Rq s w b c [x, y, n]) [5]) (D.str n)) _)) _ = _
      rw [T]
      rfl
    have X : lcXF (iVal (eSl (eVar 4) (oSome (eC (.int 2))) (oNo))) [5] (gNm 5) (F_number_in) (aCons (eVar 5) (aNil)) (Rq s w b c [x, y, n]) = .exc IQ := by
      unfold lcXF
      rw [L]
      dsimp only
      rw [i3]
      show (match F_number_in [D.str n] with
        | .exc c => R.exc c
        | _ => .bad) = _
      rw [N]
    exact op2_xr (head3 (x := x) (y := y) rfl rfl) (op1_x X)
theorem path_z (h : isPath x = true) : x.length ≤ 60 := by
  unfold isPath at h
  rw [Bool.and_eq_true, decide_eq_true_eq] at h
  exact h.1
/-- the last two demands and the return -/
theorem tailS_ok (hw : w ≠ SET) (hz : ∀ p ∈ ps, p.length ≤ 90000) : runB (tailS (Rq s w b c ps)) = oQ (other (w :: ps)) := by
  have D3 := dem3 (s := s) (w := w) (b := b) (c := c) (ps := ps)
  have no : ((w == WAY && ps.length == 2) || (tup_COUNTED.contains w && ps.length == 3)) = false → runB (tailS (Rq s w b c ps)) = .exc IQ := fun e => by
    rw [e] at D3
    unfold tailS
    rw [sSeq_x (sdem_x D3)]
    rfl
  have run : ∀ (x y : List Nat), ((w == WAY && ps.length == 2) || (tup_COUNTED.contains w && ps.length == 3)) = true → ps[0]? = some x → ps[1]? = some y → runB (tailS (Rq s w b c ps)) = if isPath x = true ∧ isPath y = true then runB (sRet tailE (Rq s w b c ps)) else .exc IQ := fun x y e hx hy => by
    rw [e] at D3
    have D4 := dem4 (s := s) (w := w) (b := b) (c := c) hx hy (hz x (List.mem_of_getElem? hx)) (hz y (List.mem_of_getElem? hy))
    unfold tailS
    by_cases h : isPath x = true ∧ isPath y = true
    · rw [if_pos h]
      rw [h.1, h.2] at D4
      rw [sSeq_n (sdem_ok D3) (sSeq_n (sdem_ok D4) rfl)]
    · rw [if_neg h]
      have : (isPath x && isPath y) = false := by
        cases h1 : isPath x <;> cases h2 : isPath y <;> first | rfl | exact absurd ⟨h1, h2⟩ h
      rw [this] at D4
      rw [sSeq_n (sdem_ok D3) (sSeq_x (sdem_x D4))]
      rfl
  match ps, hz, no, run with
  | [], _, no, _ => rw [no (by simp)]; rfl
  | [x], _, no, _ => rw [no (by simp)]; rfl
  | [x, y], _, no, run =>
    by_cases e : w = WAY
    · rw [run x y (by rw [e]; rfl) rfl rfl]
      by_cases h : isPath x = true ∧ isPath y = true
      · rw [if_pos h, sRet_ok (tail_2 h.1 h.2)]
        show _ = oQ (if w = WAY ∧ isPath x = true ∧ isPath y = true then _ else none)
        rw [if_pos ⟨e, h⟩]
        rfl
      · rw [if_neg h]
        show _ = oQ (if w = WAY ∧ isPath x = true ∧ isPath y = true then _ else none)
        rw [if_neg fun z => h z.2]
        rfl
    · rw [no (by rw [beq_false_of_ne e]; simp)]
      show _ = oQ (if w = WAY ∧ isPath x = true ∧ isPath y = true then _ else none)
      rw [if_neg fun z => e z.1]
      rfl
  | [x, y, n], hz, no, run =>
    by_cases e : w ∈ tup_COUNTED
    · rw [run x y (by rw [in_con e]; simp) rfl rfl]
      by_cases h : isPath x = true ∧ isPath y = true
      · rw [if_pos h]
        have T := tail_3 (s := s) (w := w) (b := b) (c := c) (x := x) (y := y) (hz n (by simp))
        show _ = oQ (if w ∈ tup_COUNTED ∧ isPath x = true ∧ isPath y = true ∧ n ∈ numW then _ else none)
        by_cases m : n ∈ numW
        · rw [if_pos m] at T
          rw [sRet_ok T, if_pos ⟨e, h.1, h.2, m⟩]
          rfl
        · rw [if_neg m] at T
          rw [sRet_x T, if_neg fun z => m z.2.2.2]
          rfl
      · rw [if_neg h]
        show _ = oQ (if w ∈ tup_COUNTED ∧ isPath x = true ∧ isPath y = true ∧ n ∈ numW then _ else none)
        rw [if_neg fun z => h ⟨z.2.1, z.2.2.1⟩]
        rfl
    · rw [no (by rw [in_ncon e]; simp)]
      show _ = oQ (if w ∈ tup_COUNTED ∧ isPath x = true ∧ isPath y = true ∧ n ∈ numW then _ else none)
      rw [if_neg fun z => e z.1]
      rfl
  | x :: y :: n :: m :: r, _, no, _ => rw [no (by simp)]; rfl
end
end PL
set_option Elab.async false
set_option linter.all false
set_option maxRecDepth 100000
set_option maxHeartbeats 4000000
/-! Nh81: read_question, and the law's reading by it. -/
namespace PL
open PySem PySem.Spec L2

theorem disp_x {ρ : Ro} {mk : List D → Ev} {fs : AF} {c : Str} (h : fs ρ = .exc c) : disp mk fs ρ = .exc c := by unfold disp; rw [h]; rfl
theorem aCons_x {ρ : Ro} {fa : EF} {fs : AF} {c : Str} (h : fa ρ = .exc c) : aCons fa fs ρ = .exc c := by unfold aCons; rw [h]; rfl
theorem aCons_xr {ρ : Ro} {fa : EF} {fs : AF} {e : Ev} {c : Str} (h : fa ρ = .ok e) (k : fs ρ = .exc c) : aCons fa fs ρ = .exc c := by unfold aCons; rw [h, R.bind_ok, k]; rfl
def ifS : SF := (sIf (t2 gEq (eVar 1) (eC (.str [115, 101, 116]))) (sRet (disp (fun ds => (.cl, .tup ds)) (aCons (eC (.str [115, 101, 116])) (aCons (eCall (F_read_set) 1 (aCons (eVar 3) (aNil))) (aNil))))) (sSkip))
theorem part_row {s : List Nat} {p q r : List Nat} (h : mth1 gPart (eVar 0) (eC (.str [32])) [some (false, .str s), none, none, none, none, none] = .ok (.cl, .tup [.str p, .str q, .str r])) :
    sAsg (mth1 gPart (eVar 0) (eC (.str [32]))) (gTp 3 (gsCons (gNm 1) (gsCons (gNm 2) (gsCons (gNm 3) (gsNil))))) [some (false, .str s), none, none, none, none, none] = .nx [some (false, .str s), some (false, .str p), some (false, .str q), some (false, .str r), none, none] := by
  unfold sAsg
  rw [h]
  rfl
/-- behind the partition -/
theorem rest_ok {s w q r : List Nat} (hz : r.length ≤ 90000) (hc : cnt r < 110) (hw : w = SET → r = s.drop 4) :
    runB (sSeq ifS (sSeq (sSet 4 (mth1 gSplit (eVar 3) (eC (.str [32])))) tailS) [some (false, .str s), some (false, .str w), some (false, .str q), some (false, .str r), none, none]) = oQ (inW w (wds r) s) := by
  have t1 : t2 gEq (eVar 1) (eC (.str [115, 101, 116])) [some (false, .str s), some (false, .str w), some (false, .str q), some (false, .str r), none, none] = .ok (w == SET) := t2_ok (k := .cl) (k1 := .cl) (x := .str w) rfl (k2 := .cl) (y := .str SET) rfl gEq_s
  by_cases e : w = SET
  · rw [show (w == SET) = true from beq_iff_eq.mpr e] at t1
    have rs := read_set_ok hz hc
    unfold inW
    rw [if_pos e, ← hw e]
    cases h : RQs 110 r with
    | some x =>
      rw [h] at rs
      have C : eCall F_read_set 1 (aCons (eVar 3) aNil) [some (false, .str s), some (false, .str w), some (false, .str q), some (false, .str r), none, none] = .ok (.cl, toD x) := eCall_ok (es := [(.cl, .str r)]) rfl rfl rfl rs (noL_toD x)
      have : ifS [some (false, .str s), some (false, .str w), some (false, .str q), some (false, .str r), none, none] = .rt (.cl, .tup [.str SET, toD x]) := sIf_t t1 (sRet_ok (disp_ok (es := [(.cl, .str SET), (.cl, toD x)]) (aCons_ok rfl (aCons_ok C rfl)) rfl (by show 2 ≤ 16777216; decide) rfl))
      rw [sSeq_r this]
      rfl
    | none =>
      rw [h] at rs
      have C : eCall F_read_set 1 (aCons (eVar 3) aNil) [some (false, .str s), some (false, .str w), some (false, .str q), some (false, .str r), none, none] = .exc IQ := eCall_exc (es := [(.cl, .str r)]) rfl rfl rfl rs
      have : ifS [some (false, .str s), some (false, .str w), some (false, .str q), some (false, .str r), none, none] = .exc IQ [some (false, .str s), some (false, .str w), some (false, .str q), some (false, .str r), none, none] := sIf_t t1 (sRet_x (disp_x (aCons_xr (e := (.cl, .str SET)) rfl (aCons_x C))))
      rw [sSeq_x this]
      rfl
  · rw [beq_false_of_ne e] at t1
    unfold inW
    rw [if_neg e]
    have s1 : ifS [some (false, .str s), some (false, .str w), some (false, .str q), some (false, .str r), none, none] = .nx [some (false, .str s), some (false, .str w), some (false, .str q), some (false, .str r), none, none] := sIf_f t1 rfl
    have s2 : sSet 4 (mth1 gSplit (eVar 3) (eC (.str [32]))) [some (false, .str s), some (false, .str w), some (false, .str q), some (false, .str r), none, none] = .nx (Rq s w (some (false, .str q)) (some (false, .str r)) (wds r)) :=
      sSet_f (split1 32 (by decide) (fa := eVar 3) (k := .cl) rfl hz) (by show 4 < 6; decide)
    rw [sSeq_n s1 (sSeq_n s2 rfl)]
    refine tailS_ok e fun p hp => ?_
    have := (spl_count 32 r []).2 p hp
    rw [List.length_nil] at this
    omega
theorem read_question_ok {s : List Nat} (hz : s.length ≤ 90000) (hc : cnt s < 110) : F_read_question [.str s] = oQ (Qs s) := by
  show fnD 6 1 B_read_question [.str s] = _
  have d1 : op2 gLe (op1 gLen (eVar 0)) (eC (.int 400)) [some (false, .str s), none, none, none, none, none] = .ok (.cl, .bl (decide (s.length ≤ 400))) := op2_ok (lenS (k := .cl) rfl (by omega)) (k2 := .cl) (y := .int ((400 : Nat) : Int)) rfl (gLe_n _ 400)
  unfold Qs
  by_cases h : s.length ≤ 400
  · rw [decide_eq_true h] at d1
    rw [if_pos h]
    have gp : mth1 gPart (eVar 0) (eC (.str [32])) [some (false, .str s), none, none, none, none, none] = .ok (.cl, match TL.par [32] [] s with
      | some (p, q) => .tup [.str p, .str [32], .str q]
      | none => .tup [.str s, .str [], .str []]) := mth1_ok (k1 := .cl) (a := s) rfl (k2 := .cl) (y := .str [32]) rfl (gPart_ok (by omega) (List.cons_ne_nil _ _))
    rcases cut_cases s with ⟨n, e1, e2⟩ | ⟨p, r, e, n, e1, e2⟩
    · rw [e2] at gp
      rw [e1]
      have q1 : inW s [] s = inW s (wds []) s := by
        unfold inW
        by_cases c : s = SET
        · rw [if_pos c, if_pos c]
        · rw [if_neg c, if_neg c]; rfl
      show _ = oQ (inW s [] s)
      rw [q1]
      exact fn_ok (ρ0 := [some (false, .str s), none, none, none, none, none]) rfl rfl (sSeq_n (sdem_ok d1) (sSeq_n (part_row gp) rfl)) (rest_ok (by show 0 ≤ 90000; omega) (by show 0 < 110; decide) fun e => by rw [e]; rfl)
    · rw [e2] at gp
      rw [e1]
      show _ = oQ (inW p (wds r) s)
      have zl : s.length = p.length + (r.length + 1) := by rw [e, List.length_append, List.length_cons]
      have cl : cnt s = cnt p + (cnt r + 1) := by rw [e, cnt_app]; exact congrArg (cnt p + ·) (cnt_sep r rfl)
      exact fn_ok (ρ0 := [some (false, .str s), none, none, none, none, none]) rfl rfl (sSeq_n (sdem_ok d1) (sSeq_n (part_row gp) rfl)) (rest_ok (by omega) (by omega) fun z => by rw [e, z]; rfl)
  · rw [decide_eq_false h] at d1
    rw [if_neg h]
    exact fn_ok (ρ0 := [some (false, .str s), none, none, none, none, none]) rfl rfl (sSeq_x (sdem_x d1)) rfl
theorem Qs_noL {s : List Nat} {d : D} (h : Qs s = some d) : noL d = true := by
  unfold Qs at h
  split at h
  · split at h
    · cases h
    · unfold inW at h
      split at h
      · cases e : RQs 110 (s.drop 4) with
        | none => rw [e] at h; cases h
        | some q =>
          rw [e] at h
          cases h
          show (true && (noL (toD q) && true)) = true
          rw [noL_toD]; rfl
      · unfold other at h
        split at h
        · split at h
          · cases h; rfl
          · cases h
        · split at h
          · cases h; rfl
          · cases h
        · cases h
  · cases h
theorem law_read_ok {s : List Nat} (hz : s.length ≤ 90000) (hc : cnt s < 110) : F__law_read [.str s] = .ok (.cl, (Qs s).getD .non) := by
  have R := read_question_ok hz hc
  show fnD 2 1 B__law_read [.str s] = _
  cases h : Qs s with
  | some d =>
    rw [h] at R
    have : B__law_read [some (false, .str s), none] = .rt (.cl, d) := by
      have C : sRet (eCall F_read_question 1 (aCons (eVar 0) aNil)) [some (false, .str s), none] = .rt (.cl, d) := sRet_ok (eCall_ok (es := [(.cl, .str s)]) rfl rfl rfl R (Qs_noL h))
      unfold B__law_read sTryV
      rw [C]
    exact fn_ok (ρ0 := [some (false, .str s), none]) rfl rfl this rfl
  | none =>
    rw [h] at R
    have : B__law_read [some (false, .str s), none] = .rt (.cl, .non) := by
      have C : sRet (eCall F_read_question 1 (aCons (eVar 0) aNil)) [some (false, .str s), none] = .exc IQ [some (false, .str s), none] := sRet_x (eCall_exc (es := [(.cl, .str s)]) rfl rfl rfl R)
      unfold B__law_read sTryV
      rw [C]
      exact if_pos ⟨rfl, Nat.lt_add_one 1⟩
    exact fn_ok (ρ0 := [some (false, .str s), none]) rfl rfl this rfl
end PL
set_option Elab.async false
set_option linter.all false
set_option maxRecDepth 100000
set_option maxHeartbeats 4000000
/-! Oa81: the law's reader of set questions. -/
namespace PL
open PySem PySem.Spec L2

theorem lp_suf : ∀ (n : Nat) {ws r : List (List Nat)} {q : SQ}, lp n ws = some (q, r) → ∃ u, u ≠ [] ∧ ws = u ++ r
  | 0, _, _, _, h => by cases h
  | _ + 1, [], _, _, h => by cases h
  | n + 1, w :: ws, r, q, h => by
    unfold lp at h
    split at h
    · cases h; exact ⟨[w], List.cons_ne_nil _ _, rfl⟩
    · split at h
      · cases ws with
        | nil => cases h
        | cons x ws' =>
          dsimp only at h
          split at h
          · cases h; exact ⟨[w, x], List.cons_ne_nil _ _, rfl⟩
          · cases h
      · split at h
        · obtain ⟨⟨q1, r1⟩, h1, h⟩ := Option.bind_eq_some_iff.mp h
          cases h
          obtain ⟨u, _, e⟩ := lp_suf n h1
          exact ⟨w :: u, List.cons_ne_nil _ _, by rw [e]; rfl⟩
        · split at h
          · obtain ⟨⟨a, r1⟩, h1, h⟩ := Option.bind_eq_some_iff.mp h
            obtain ⟨u, _, e⟩ := lp_suf n h1
            cases r1 with
            | nil => cases h
            | cons t r2 =>
              dsimp only at h
              split at h
              · obtain ⟨⟨b, r3⟩, h2, h⟩ := Option.bind_eq_some_iff.mp h
                obtain ⟨v, _, e2⟩ := lp_suf n h2
                cases r3 with
                | nil => cases h
                | cons z r4 =>
                  dsimp only at h
                  split at h
                  · cases h
                    exact ⟨w :: (u ++ t :: (v ++ [z])), List.cons_ne_nil _ _, by rw [e, e2]; simp⟩
                  · cases h
              · cases h
          · cases h
theorem gIn_ls {x : List Nat} {ns : List (List Nat)} : gIn false (.str x) (.lst (ns.map D.str)) = .ok (.cl, .bl (ns.contains x)) := by
  show (match unS (ns.map D.str) with | some ns => R.ok (Kd.cl, D.bl (if false = true then !ns.contains x else ns.contains x)) | none => .bad) = _
  rw [unS_map]
  rfl
theorem gNin_ls {x : List Nat} {ns : List (List Nat)} : gIn true (.str x) (.lst (ns.map D.str)) = .ok (.cl, .bl (!ns.contains x)) := by
  show (match unS (ns.map D.str) with | some ns => R.ok (Kd.cl, D.bl (if true = true then !ns.contains x else ns.contains x)) | none => .bad) = _
  rw [unS_map]
  rfl
section
variable {ρ : Ro} {t : TF} {f g : SF}
theorem skip_n (h : t ρ = .ok false) : sIf t f sSkip ρ = .nx ρ := sIf_f h rfl
theorem non_t (h : t ρ = .ok true) : sIf t (sRet (eC .non)) g ρ = .rt (.cl, .non) := sIf_t h rfl
end
def tellP (T : List (List Nat)) : Option (SQ × List (List Nat)) → R Ev
  | some (q, r) => .ok (.cl, .tup [toD q, .int ((T.length - r.length : Nat) : Int)])
  | none => .ok (.cl, .non)
abbrev P6 (T : List (List Nat)) (a : Nat) (w i f s : Sl) : Ro := [some (false, .lst (T.map D.str)), some (false, .int (a : Nat)), w, i, f, s]
section
variable {T : List (List Nat)} {a : Nat} {w i f s : Sl} {fe : EF} {k : Kd}
theorem lenT : op1 gLen (eVar 0) (P6 T a w i f s) = .ok (.cl, .int (T.length : Nat)) := by
  refine op1_ok (k1 := .cl) (x := .lst (T.map D.str)) rfl ?_
  show R.ok (Kd.cl, D.int ((T.map D.str).length : Nat)) = _
  rw [List.length_map]
theorem ixT {n : Nat} {x : List Nat} (h : fe (P6 T a w i f s) = .ok (k, .int n)) (hx : T[n]? = some x) : op2 gIx (eVar 0) fe (P6 T a w i f s) = .ok (.cl, .str x) := op2_ok (k1 := .cl) (x := .lst (T.map D.str)) rfl h (gIx_t0 hx)
theorem atT : eVar 1 (P6 T a w i f s) = .ok (.cl, .int (a : Nat)) := rfl
theorem atT1 (n : Nat) : op2 gAdd (eVar 1) (eC (.int n)) (P6 T a w i f s) = .ok (.cl, .int ((a + n : Nat) : Int)) := addN atT rfl
end
theorem mid_get {α : Type} {p r : List α} {x : α} : (p ++ x :: r)[p.length]? = some x := by
  rw [List.getElem?_append_right (Nat.le_refl _), Nat.sub_self]; rfl
theorem rng_len {α : Type} {p u r : List α} : (p ++ (u ++ r)).length - r.length = p.length + u.length := by
  rw [List.length_append, List.length_append]; omega
def Part (n : Nat) : Prop := ∀ (T pre rest : List (List Nat)) (a : Nat), T = pre ++ rest → a = pre.length → rest.length < n → (∀ p ∈ T, p.length ≤ 90000) → F__law_set_part n [.lst (T.map D.str), .int (a : Nat)] = tellP T (lp n rest)
theorem isNt {ρ : Ro} {i : Nat} {ds : List D} (h : ρ[i]? = some (some (false, .tup ds))) : tE' (eIsN false (eVar i)) ρ = .ok false := isnT (k := .cl) (d := .tup ds) (by unfold eVar; rw [h]) rfl
theorem isNn {ρ : Ro} {i : Nat} (h : ρ[i]? = some (some (false, .non))) : tE' (eIsN false (eVar i)) ρ = .ok true := isnT (k := .cl) (d := .non) (by unfold eVar; rw [h]) rfl
theorem part_all : ∀ n : Nat, Part n
  | 0 => fun T pre rest a _ _ h _ => absurd h (Nat.not_lt_zero _)
  | n + 1 => by
    have ih := part_all n
    intro T pre rest a hT ha hr hz
    show fnD 6 2 (B__law_set_part (F__law_set_part n)) [.lst (T.map D.str), .int (a : Nat)] = _
    have hl : T.length = a + rest.length := by rw [hT, List.length_append, ha]
    have t1 : t2 gGe (eVar 1) (op1 gLen (eVar 0)) (P6 T a none none none none) = .ok (decide (T.length ≤ a)) := t2_ok (k := .cl) atT lenT (gGe_n _ _)
    refine fn_ok (ρ0 := P6 T a none none none none) rfl rfl rfl ?_
    unfold B__law_set_part
    cases rest with
    | nil =>
      rw [decide_eq_true (by rw [hl]; exact Nat.le_refl _)] at t1
      rw [sSeq_r (e := (.cl, .non)) (non_t t1)]
      rfl
    | cons w ws =>
      rw [List.length_cons] at hl hr
      rw [decide_eq_false (by omega)] at t1
      rw [sSeq_n (ρ1 := P6 T a none none none none) (skip_n t1) rfl]
      have hw : T[a]? = some w := by rw [hT, ha]; exact mid_get
      rw [sSeq_n (ρ1 := P6 T a (some (false, .str w)) none none none) (sSet_c (ixT (k := .cl) atT hw)) rfl]
      have tP : t2 (gIn false) (eVar 2) (disp (fun ds => (.fr, .lst ds)) (aCons (eC (.str [97, 108, 108])) (aCons (eC (.str [116, 97, 114, 103, 101, 116, 115])) (aCons (eC (.str [115, 111, 117, 114, 99, 101, 115])) (aCons (eC (.str [109, 105, 115, 115, 105, 110, 103])) (aCons (eC (.str [109, 97, 100, 101])) (aCons (eC (.str [98, 97, 100])) (aCons (eC (.str [108, 105, 115, 116, 115])) (aNil))))))))) (P6 T a (some (false, .str w)) none none none) = .ok (PLAIN.contains w) :=
        t2_ok (k := .cl) (k1 := .cl) (x := .str w) rfl (k2 := .fr) (y := .lst (PLAIN.map D.str)) rfl gIn_ls
      unfold lp
      by_cases hp : w ∈ PLAIN
      · rw [if_pos hp]
        rw [in_con hp] at tP
        have r1 : sRet (disp (fun ds => (.cl, .tup ds)) (aCons (disp (fun ds => (.cl, .tup ds)) (aCons (eVar 2) (aNil))) (aCons (op2 gAdd (eVar 1) (eC (.int 1))) (aNil)))) (P6 T a (some (false, .str w)) none none none) = .rt (.cl, .tup [.tup [.str w], .int ((a + 1 : Nat) : Int)]) :=
          sRet_ok (disp_ok (es := [(.cl, .tup [.str w]), (.cl, .int ((a + 1 : Nat) : Int))]) (aCons_ok rfl (aCons_ok (atT1 1) rfl)) rfl (by show 2 ≤ 16777216; decide) rfl)
        rw [sSeq_r (sIf_t tP r1)]
        show R.ok (Kd.cl, D.tup [.tup [.str w], .int ((a + 1 : Nat) : Int)]) = R.ok (Kd.cl, D.tup [.tup [.str w], .int ((T.length - ws.length : Nat) : Int)])
        rw [show T.length - ws.length = a + 1 by omega]
      · rw [if_neg hp]
        rw [in_ncon hp] at tP
        rw [sSeq_n (ρ1 := P6 T a (some (false, .str w)) none none none) (skip_n tP) rfl]
        have tN : tOrF (t2 gEq (eVar 2) (eC (.str [112, 97, 116, 104]))) (t2 gEq (eVar 2) (eC (.str [102, 105, 116, 115]))) (P6 T a (some (false, .str w)) none none none) = .ok (NAMED.contains w) := by
          refine (tOr_ok (t2_ok (k := .cl) (k1 := .cl) (x := .str w) rfl (k2 := .cl) (y := .str PATH) rfl gEq_s) (t2_ok (k := .cl) (k1 := .cl) (x := .str w) rfl (k2 := .cl) (y := .str FITS) rfl gEq_s)).trans ?_
          show R.ok (w == PATH || w == FITS) = R.ok (w == PATH || (match w == FITS with | true => true | false => false))
          cases w == FITS <;> rfl
        by_cases hn : w ∈ NAMED
        · rw [if_pos hn]
          rw [in_con hn] at tN
          cases ws with
          | nil =>
            have tA : tOrF (t2 gGe (op2 gAdd (eVar 1) (eC (.int 1))) (op1 gLen (eVar 0))) (tNotF (tVal (op2 gIx (disp (fun ds => (.fr, .lst ds)) (aCons (eCall (F__law_is_path) 1 (aCons (op2 gIx (eVar 0) (op2 gAdd (eVar 1) (eC (.int 1)))) (aNil))) (aCons (eCall (F__law_is_glob) 1 (aCons (op2 gIx (eVar 0) (op2 gAdd (eVar 1) (eC (.int 1)))) (aNil))) (aNil)))) (op1 gInt (op2 gEq (eVar 2) (eC (.str [102, 105, 116, 115]))))))) (P6 T a (some (false, .str w)) none none none) = .ok true := by
              refine tOr_t (t2_ok (k := .cl) (atT1 1) lenT ?_)
              rw [gGe_n, decide_eq_true (by rw [List.length_nil] at hl; omega)]
            rw [sSeq_r (e := (.cl, .non)) (sIf_t tN (sSeq_r (e := (.cl, .non)) (non_t tA)))]
            rfl
          | cons x ws' =>
            rw [List.length_cons] at hl hr
            have hx : T[a + 1]? = some x := by
              have : T = (pre ++ [w]) ++ x :: ws' := by rw [hT]; simp
              rw [this, ha, show pre.length + 1 = (pre ++ [w]).length by simp]
              exact mid_get
            have zx := hz x (List.mem_of_getElem? hx)
            have ex := ixT (w := some (false, .str w)) (i := none) (f := none) (s := none) (atT1 1) hx
            have tA : tOrF (t2 gGe (op2 gAdd (eVar 1) (eC (.int 1))) (op1 gLen (eVar 0))) (tNotF (tVal (op2 gIx (disp (fun ds => (.fr, .lst ds)) (aCons (eCall (F__law_is_path) 1 (aCons (op2 gIx (eVar 0) (op2 gAdd (eVar 1) (eC (.int 1)))) (aNil))) (aCons (eCall (F__law_is_glob) 1 (aCons (op2 gIx (eVar 0) (op2 gAdd (eVar 1) (eC (.int 1)))) (aNil))) (aNil)))) (op1 gInt (op2 gEq (eVar 2) (eC (.str [102, 105, 116, 115]))))))) (P6 T a (some (false, .str w)) none none none) = .ok (!good w x) := by
              refine tOr_f (t2_ok (k := .cl) (atT1 1) lenT (by rw [gGe_n, decide_eq_false (by omega)])) (tNot_ok (tVal_b (k := .cl) ?_))
              have dl : disp (fun ds => (.fr, .lst ds)) (aCons (eCall (F__law_is_path) 1 (aCons (op2 gIx (eVar 0) (op2 gAdd (eVar 1) (eC (.int 1)))) (aNil))) (aCons (eCall (F__law_is_glob) 1 (aCons (op2 gIx (eVar 0) (op2 gAdd (eVar 1) (eC (.int 1)))) (aNil))) (aNil))) (P6 T a (some (false, .str w)) none none none) = .ok (.fr, .lst [.bl (isPath x), .bl (isGlob x)]) :=
                disp_ok (es := [(.cl, .bl (isPath x)), (.cl, .bl (isGlob x))]) (aCons_ok (callB ex (lpath_ok zx)) (aCons_ok (callB ex (lglob_ok zx)) rfl)) rfl (by show 2 ≤ 16777216; decide) rfl
              have di : op1 gInt (op2 gEq (eVar 2) (eC (.str [102, 105, 116, 115]))) (P6 T a (some (false, .str w)) none none none) = .ok (.cl, .int (if (w == FITS) = true then 1 else 0)) := op1_ok (op2_ok (k1 := .cl) (x := .str w) rfl (k2 := .cl) (y := .str FITS) rfl gEq_s) rfl
              refine op2_ok dl di ?_
              rcases List.mem_cons.mp hn with e | e
              · rw [show good w x = isPath x from if_pos e, e]; rfl
              · have e := List.mem_singleton.mp e
                rw [show good w x = isGlob x from if_neg (by rw [e]; decide), e]; rfl
            by_cases hg : good w x = true
            · show _ = tellP T (if good w x = true then _ else none)
              rw [if_pos hg]
              rw [hg] at tA
              have r1 : sRet (disp (fun ds => (.cl, .tup ds)) (aCons (disp (fun ds => (.cl, .tup ds)) (aCons (eVar 2) (aCons (op2 gIx (eVar 0) (op2 gAdd (eVar 1) (eC (.int 1)))) (aNil)))) (aCons (op2 gAdd (eVar 1) (eC (.int 2))) (aNil)))) (P6 T a (some (false, .str w)) none none none) = .rt (.cl, .tup [.tup [.str w, .str x], .int ((a + 2 : Nat) : Int)]) :=
                sRet_ok (disp_ok (es := [(.cl, .tup [.str w, .str x]), (.cl, .int ((a + 2 : Nat) : Int))]) (aCons_ok (disp_ok (es := [(.cl, .str w), (.cl, .str x)]) (aCons_ok rfl (aCons_ok ex rfl)) rfl (by show 2 ≤ 16777216; decide) rfl) (aCons_ok (atT1 2) rfl)) rfl (by show 2 ≤ 16777216; decide) rfl)
              rw [sSeq_r (sIf_t tN (sSeq_n (ρ1 := P6 T a (some (false, .str w)) none none none) (skip_n tA) r1))]
              show R.ok (Kd.cl, D.tup [.tup [.str w, .str x], .int ((a + 2 : Nat) : Int)]) = R.ok (Kd.cl, D.tup [.tup [.str w, .str x], .int ((T.length - ws'.length : Nat) : Int)])
              rw [show T.length - ws'.length = a + 2 by omega]
            · show _ = tellP T (if good w x = true then _ else none)
              rw [if_neg hg]
              rw [show good w x = false by cases z : good w x with | false => rfl | true => exact absurd z hg] at tA
              rw [sSeq_r (e := (.cl, .non)) (sIf_t tN (sSeq_r (e := (.cl, .non)) (non_t tA)))]
              rfl
        · rw [if_neg hn]
          rw [in_ncon hn] at tN
          rw [sSeq_n (ρ1 := P6 T a (some (false, .str w)) none none none) (skip_n tN) rfl]
          have tL : t2 (gIn false) (eVar 2) (disp (fun ds => (.fr, .lst ds)) (aCons (eC (.str [110, 101, 101, 100, 115])) (aCons (eC (.str [117, 115, 101, 114, 115])) (aCons (eC (.str [98, 101, 104, 105, 110, 100])) (aCons (eC (.str [97, 104, 101, 97, 100])) (aNil)))))) (P6 T a (some (false, .str w)) none none none) = .ok (LED.contains w) :=
            t2_ok (k := .cl) (k1 := .cl) (x := .str w) rfl (k2 := .fr) (y := .lst (LED.map D.str)) rfl gIn_ls
          have c1 : ∀ i : Sl, eCall (F__law_set_part n) 2 (aCons (eVar 0) (aCons (op2 gAdd (eVar 1) (eC (.int 1))) (aNil))) (P6 T a (some (false, .str w)) none none none) = tellP T (lp n ws) := fun _ => by
            have := ih T (pre ++ [w]) ws (a + 1) (by rw [hT]; simp) (by rw [ha]; simp) (by omega) hz
            cases e : lp n ws with
            | none =>
              rw [e] at this
              exact eCall_ok (es := [(.cl, .lst (T.map D.str)), (.cl, .int ((a + 1 : Nat) : Int))]) (aCons_ok rfl (aCons_ok (atT1 1) rfl)) rfl rfl this rfl
            | some v =>
              rw [e] at this
              refine eCall_ok (es := [(.cl, .lst (T.map D.str)), (.cl, .int ((a + 1 : Nat) : Int))]) (aCons_ok rfl (aCons_ok (atT1 1) rfl)) rfl rfl this ?_
              show (noL (toD v.1) && (true && true)) = true
              rw [noL_toD]; rfl
          have c1 := c1 none
          by_cases hl1 : w ∈ LED
          · rw [if_pos hl1]
            rw [in_con hl1] at tL
            cases e : lp n ws with
            | none =>
              rw [e] at c1
              rw [sSeq_r (e := (.cl, .non)) (sIf_t tL (sSeq_n (ρ1 := P6 T a (some (false, .str w)) (some (false, .non)) none none) (sSet_c c1) (sSeq_r (e := (.cl, .non)) (non_t (isNn rfl)))))]
              rfl
            | some v =>
              obtain ⟨q, r⟩ := v
              rw [e] at c1
              have r1 : sRet (disp (fun ds => (.cl, .tup ds)) (aCons (disp (fun ds => (.cl, .tup ds)) (aCons (eVar 2) (aCons (op2 gIx (eVar 3) (eC (.int 0))) (aNil)))) (aCons (op2 gIx (eVar 3) (eC (.int 1))) (aNil)))) (P6 T a (some (false, .str w)) (some (false, .tup [toD q, .int ((T.length - r.length : Nat) : Int)])) none none) = .rt (.cl, .tup [.tup [.str w, toD q], .int ((T.length - r.length : Nat) : Int)]) := rfl
              rw [sSeq_r (sIf_t tL (sSeq_n (ρ1 := P6 T a (some (false, .str w)) (some (false, .tup [toD q, .int ((T.length - r.length : Nat) : Int)])) none none) (sSet_c c1) (sSeq_n (ρ1 := P6 T a (some (false, .str w)) (some (false, .tup [toD q, .int ((T.length - r.length : Nat) : Int)])) none none) (skip_n (isNt rfl)) r1)))]
              rfl
          · rw [if_neg hl1]
            rw [in_ncon hl1] at tL
            rw [sSeq_n (ρ1 := P6 T a (some (false, .str w)) none none none) (skip_n tL) rfl]
            have tO : t2 gNe (eVar 2) (eC (.str [40])) (P6 T a (some (false, .str w)) none none none) = .ok (!(w == [40])) := t2_ok (k := .cl) (k1 := .cl) (x := .str w) rfl (k2 := .cl) (y := .str [40]) rfl gNe_s
            by_cases ho : w = [40]
            · rw [if_pos ho]
              rw [show (!(w == [40])) = false by rw [ho]; rfl] at tO
              rw [sSeq_n (ρ1 := P6 T a (some (false, .str w)) none none none) (skip_n tO) rfl]
              cases e : lp n ws with
              | none =>
                rw [e] at c1
                rw [sSeq_n (ρ1 := P6 T a (some (false, .str w)) none (some (false, .non)) none) (sSet_c c1) rfl, sSeq_r (e := (.cl, .non)) (non_t (tOr_t (isNn rfl)))]
                rfl
              | some v =>
                obtain ⟨q1, r1⟩ := v
                rw [e] at c1
                obtain ⟨u, _, eu⟩ := lp_suf n e
                let b := T.length - r1.length
                have hT2 : T = (pre ++ ([w] ++ u)) ++ r1 := by rw [hT, eu]; simp
                have hb : b = (pre ++ ([w] ++ u)).length := by
                  show T.length - r1.length = _
                  rw [hT2, List.length_append (bs := r1)]; omega
                have hlu : ws.length = u.length + r1.length := by rw [eu, List.length_append]
                have hb2 : T.length = b + r1.length := by rw [hT2, List.length_append, ← hb]
                let F : Sl := some (false, .tup [toD q1, .int (b : Nat)])
                rw [sSeq_n (ρ1 := P6 T a (some (false, .str w)) none F none) (sSet_c c1) rfl]
                have x4 : ∀ s : Sl, op2 gIx (eVar 4) (eC (.int 1)) (P6 T a (some (false, .str w)) none F s) = .ok (.cl, .int (b : Nat)) := fun _ => rfl
                have n4 : tE' (eIsN false (eVar 4)) (P6 T a (some (false, .str w)) none F none) = .ok false := isNt rfl
                have g4 : t2 gGe (op2 gIx (eVar 4) (eC (.int 1))) (op1 gLen (eVar 0)) (P6 T a (some (false, .str w)) none F none) = .ok (decide (T.length ≤ b)) := t2_ok (k := .cl) (x4 none) lenT (gGe_n _ _)
                rw [Option.bind_some]
                cases r1 with
                | nil =>
                  rw [decide_eq_true (by rw [List.length_nil] at hb2; omega)] at g4
                  rw [sSeq_r (e := (.cl, .non)) (non_t (tOr_f n4 (tOr_t g4)))]
                  rfl
                | cons t r2 =>
                  rw [List.length_cons] at hb2 hlu
                  rw [decide_eq_false (by omega)] at g4
                  have ht : T[b]? = some t := by rw [hT2, hb]; exact mid_get
                  have i4 : t2 (gIn true) (op2 gIx (eVar 0) (op2 gIx (eVar 4) (eC (.int 1)))) (disp (fun ds => (.fr, .lst ds)) (aCons (eC (.str [98, 111, 116, 104])) (aCons (eC (.str [101, 105, 116, 104, 101, 114])) (aCons (eC (.str [119, 105, 116, 104, 111, 117, 116])) (aNil))))) (P6 T a (some (false, .str w)) none F none) = .ok (!TWO.contains t) :=
                    t2_ok (k := .cl) (ixT (x4 none) ht) (k2 := .fr) (y := .lst (TWO.map D.str)) rfl gNin_ls
                  dsimp only
                  by_cases hw2 : t ∈ TWO
                  · rw [if_pos hw2]
                    rw [in_con hw2] at i4
                    rw [sSeq_n (ρ1 := P6 T a (some (false, .str w)) none F none) (skip_n (tOr_f n4 (tOr_f g4 i4))) rfl]
                    have c2 : eCall (F__law_set_part n) 2 (aCons (eVar 0) (aCons (op2 gAdd (op2 gIx (eVar 4) (eC (.int 1))) (eC (.int 1))) (aNil))) (P6 T a (some (false, .str w)) none F none) = tellP T (lp n r2) := by
                      have := ih T (pre ++ ([w] ++ u) ++ [t]) r2 (b + 1) (by rw [hT2]; simp) (by rw [List.length_append, ← hb]; rfl) (by omega) hz
                      have ea := addN (k := .cl) (k2 := .cl) (x := b) (y := 1) (fl := eC (.int 1)) (x4 none) rfl
                      cases e : lp n r2 with
                      | none =>
                        rw [e] at this
                        exact eCall_ok (es := [(.cl, .lst (T.map D.str)), (.cl, .int ((b + 1 : Nat) : Int))]) (aCons_ok rfl (aCons_ok ea rfl)) rfl rfl this rfl
                      | some v =>
                        rw [e] at this
                        refine eCall_ok (es := [(.cl, .lst (T.map D.str)), (.cl, .int ((b + 1 : Nat) : Int))]) (aCons_ok rfl (aCons_ok ea rfl)) rfl rfl this ?_
                        show (noL (toD v.1) && (true && true)) = true
                        rw [noL_toD]; rfl
                    cases e2 : lp n r2 with
                    | none =>
                      rw [e2] at c2
                      rw [sSeq_n (ρ1 := P6 T a (some (false, .str w)) none F (some (false, .non))) (sSet_c c2) rfl, sSeq_r (e := (.cl, .non)) (non_t (tOr_t (isNn rfl)))]
                      rfl
                    | some v =>
                      obtain ⟨q2, r3⟩ := v
                      rw [e2] at c2
                      obtain ⟨u2, _, eu2⟩ := lp_suf n e2
                      let d := T.length - r3.length
                      have hT3 : T = (pre ++ ([w] ++ u) ++ ([t] ++ u2)) ++ r3 := by rw [hT2, eu2]; simp
                      have hd : d = (pre ++ ([w] ++ u) ++ ([t] ++ u2)).length := by
                        show T.length - r3.length = _
                        rw [hT3, List.length_append (bs := r3)]; omega
                      have hd2 : T.length = d + r3.length := by rw [hT3, List.length_append, ← hd]
                      let G : Sl := some (false, .tup [toD q2, .int (d : Nat)])
                      rw [sSeq_n (ρ1 := P6 T a (some (false, .str w)) none F G) (sSet_c c2) rfl]
                      have x5 : op2 gIx (eVar 5) (eC (.int 1)) (P6 T a (some (false, .str w)) none F G) = .ok (.cl, .int (d : Nat)) := rfl
                      have n5 : tE' (eIsN false (eVar 5)) (P6 T a (some (false, .str w)) none F G) = .ok false := isNt rfl
                      have g5 : t2 gGe (op2 gIx (eVar 5) (eC (.int 1))) (op1 gLen (eVar 0)) (P6 T a (some (false, .str w)) none F G) = .ok (decide (T.length ≤ d)) := t2_ok (k := .cl) x5 lenT (gGe_n _ _)
                      rw [Option.bind_some]
                      cases r3 with
                      | nil =>
                        rw [decide_eq_true (by rw [List.length_nil] at hd2; omega)] at g5
                        rw [sSeq_r (e := (.cl, .non)) (non_t (tOr_f n5 (tOr_t g5)))]
                        rfl
                      | cons z r4 =>
                        rw [List.length_cons] at hd2
                        rw [decide_eq_false (by omega)] at g5
                        have hz2 : T[d]? = some z := by rw [hT3, hd]; exact mid_get
                        have i5 : t2 gNe (op2 gIx (eVar 0) (op2 gIx (eVar 5) (eC (.int 1)))) (eC (.str [41])) (P6 T a (some (false, .str w)) none F G) = .ok (!(z == [41])) := t2_ok (k := .cl) (ixT x5 hz2) (k2 := .cl) (y := .str [41]) rfl gNe_s
                        dsimp only
                        by_cases hc : z = [41]
                        · rw [if_pos hc]
                          rw [show (!(z == [41])) = false by rw [hc]; rfl] at i5
                          rw [sSeq_n (ρ1 := P6 T a (some (false, .str w)) none F G) (skip_n (tOr_f n5 (tOr_f g5 i5))) rfl]
                          have r1 : sRet (disp (fun ds => (.cl, .tup ds)) (aCons (disp (fun ds => (.cl, .tup ds)) (aCons (op2 gIx (eVar 0) (op2 gIx (eVar 4) (eC (.int 1)))) (aCons (op2 gIx (eVar 4) (eC (.int 0))) (aCons (op2 gIx (eVar 5) (eC (.int 0))) (aNil))))) (aCons (op2 gAdd (op2 gIx (eVar 5) (eC (.int 1))) (eC (.int 1))) (aNil)))) (P6 T a (some (false, .str w)) none F G) = .rt (.cl, .tup [.tup [.str t, toD q1, toD q2], .int ((d + 1 : Nat) : Int)]) :=
                            sRet_ok (disp_ok (es := [(.cl, .tup [.str t, toD q1, toD q2]), (.cl, .int ((d + 1 : Nat) : Int))]) (aCons_ok (disp_ok (es := [(.cl, .str t), (.cl, toD q1), (.cl, toD q2)]) (aCons_ok (ixT (x4 G) ht) (aCons_ok rfl (aCons_ok rfl rfl))) rfl (by show 3 ≤ 16777216; decide) rfl) (aCons_ok (addN (k := .cl) (k2 := .cl) (x := d) (y := 1) (fl := eC (.int 1)) x5 rfl) rfl)) rfl (by show 2 ≤ 16777216; decide) rfl)
                          rw [r1]
                          show R.ok (Kd.cl, D.tup [.tup [.str t, toD q1, toD q2], .int ((d + 1 : Nat) : Int)]) = R.ok (Kd.cl, D.tup [.tup [.str t, toD q1, toD q2], .int ((T.length - r4.length : Nat) : Int)])
                          rw [show T.length - r4.length = d + 1 by omega]
                        · rw [if_neg hc]
                          rw [show (!(z == [41])) = true by rw [beq_false_of_ne hc]; rfl] at i5
                          rw [sSeq_r (e := (.cl, .non)) (non_t (tOr_f n5 (tOr_f g5 i5)))]
                          rfl
                  · rw [if_neg hw2]
                    rw [in_ncon hw2] at i4
                    rw [sSeq_r (e := (.cl, .non)) (non_t (tOr_f n4 (tOr_f g4 i4)))]
                    rfl
            · rw [if_neg ho]
              rw [show (!(w == [40])) = true by rw [beq_false_of_ne ho]; rfl] at tO
              rw [sSeq_r (e := (.cl, .non)) (non_t tO)]
              rfl
end PL
set_option Elab.async false
set_option linter.all false
set_option maxRecDepth 100000
set_option maxHeartbeats 4000000
/-! Ob81: plain facts on words and texts. -/
namespace PL
open PySem PySem.Spec L2

theorem lp_inv : ∀ (n : Nat) {ws r : List (List Nat)} {q : SQ}, lp n ws = some (q, r) → ws = toks q ++ r ∧ dep q ≤ n
  | 0, _, _, _, h => by cases h
  | _ + 1, [], _, _, h => by cases h
  | n + 1, w :: ws, r, q, h => by
    unfold lp at h
    split at h
    · cases h; exact ⟨rfl, by show 1 ≤ n + 1; omega⟩
    · split at h
      · cases ws with
        | nil => cases h
        | cons x ws' =>
          dsimp only at h
          split at h
          · cases h; exact ⟨rfl, by show 1 ≤ n + 1; omega⟩
          · cases h
      · split at h
        · obtain ⟨⟨q1, r1⟩, h1, h⟩ := Option.bind_eq_some_iff.mp h
          cases h
          obtain ⟨e, hd⟩ := lp_inv n h1
          exact ⟨by rw [e]; rfl, by show dep q1 + 1 ≤ n + 1; omega⟩
        · split at h
          · rename_i ho
            obtain ⟨⟨a, r1⟩, h1, h⟩ := Option.bind_eq_some_iff.mp h
            obtain ⟨e, d1⟩ := lp_inv n h1
            cases r1 with
            | nil => cases h
            | cons t r2 =>
              dsimp only at h
              split at h
              · obtain ⟨⟨b, r3⟩, h2, h⟩ := Option.bind_eq_some_iff.mp h
                obtain ⟨e2, d2⟩ := lp_inv n h2
                cases r3 with
                | nil => cases h
                | cons z r4 =>
                  dsimp only at h
                  split at h
                  · rename_i hc
                    cases h
                    refine ⟨?_, by show max (dep a) (dep b) + 1 ≤ n + 1; omega⟩
                    rw [e, e2, ho, hc]
                    show _ = ([40] :: (toks a ++ t :: (toks b ++ [[41]]))) ++ r
                    simp
                  · cases h
              · cases h
          · cases h
theorem join_cut : ∀ (x acc : List Nat), TL.joinL [32] (TL.spl [32] 0 acc x) = acc ++ x
  | [], acc => by rw [TL.spl_nil, List.append_nil]; rfl
  | c :: r, acc => by
    by_cases h : TL.pre [32] (c :: r) = true
    · rw [TL.spl_hit h]
      have ih := join_cut r []
      have hc : c = 32 := by
        have : ([c] == [32]) = true := h
        exact (List.cons.inj (beq_iff_eq.mp this)).1
      show TL.joinL [32] (acc :: TL.spl [32] 0 [] r) = _
      rw [show TL.joinL [32] (acc :: TL.spl [32] 0 [] r) = TL.joinL [32] ([acc] ++ TL.spl [32] 0 [] r) from rfl, join_app (List.cons_ne_nil _ _) ?_, ih, hc]
      · rfl
      · intro z
        rw [z] at ih
        have : ∀ y : List Nat, TL.spl [32] 0 [] y ≠ [] := fun y => by
          rcases cut_cases y with ⟨_, e, _⟩ | ⟨p, q, _, _, e, _⟩
          · rw [show TL.spl [32] 0 [] y = [y] from e]; exact List.cons_ne_nil _ _
          · rw [show TL.spl [32] 0 [] y = p :: wds q from e]; exact List.cons_ne_nil _ _
        exact this r z
    · rw [TL.spl_miss (by simpa using h), join_cut r (acc ++ [c])]
      simp
theorem wds_ne (y : List Nat) : wds y ≠ [] := by
  rcases cut_cases y with ⟨_, e, _⟩ | ⟨p, q, _, _, e, _⟩
  · rw [e]; exact List.cons_ne_nil _ _
  · rw [e]; exact List.cons_ne_nil _ _
theorem spl_cnt : ∀ (x acc : List Nat), (TL.spl [32] 0 acc x).length = x.countP (· == 32) + 1
  | [], acc => by rw [TL.spl_nil]; rfl
  | c :: r, acc => by
    by_cases h : TL.pre [32] (c :: r) = true
    · have hc : c = 32 := by
        have : ([c] == [32]) = true := h
        exact (List.cons.inj (beq_iff_eq.mp this)).1
      rw [TL.spl_hit h, List.length_cons, hc, List.countP_cons_of_pos (by rfl)]
      show (TL.spl [32] 0 [] r).length + 1 = _
      rw [spl_cnt r []]
    · have hc : ¬ (c == 32) = true := fun z => h (by rw [beq_iff_eq.mp z]; rfl)
      rw [TL.spl_miss (by simpa using h), spl_cnt r _, List.countP_cons_of_neg (p := (· == 32)) hc]
theorem RP_cnt : ∀ t : List Nat, (RP t).countP (· == 32) = cnt t
  | [] => rfl
  | c :: r => by
    show ((rp c) ++ RP r).countP (· == 32) = cnt (c :: r)
    rw [List.countP_append, RP_cnt r]
    have : cnt (c :: r) = (if sep c = true then 1 else 0) + cnt r := by
      unfold cnt
      rw [List.countP_cons]; omega
    rw [this]
    congr 1
    unfold rp sep
    by_cases h1 : c = 40
    · subst h1; rfl
    · by_cases h2 : c = 41
      · subst h2; rfl
      · rw [if_neg h1, if_neg h2, beq_false_of_ne h1, beq_false_of_ne h2]
        by_cases h3 : c = 32
        · subst h3; rfl
        · rw [List.countP_cons_of_neg (by simpa using h3), beq_false_of_ne h3]; rfl
theorem RP_len : ∀ t : List Nat, t.length ≤ (RP t).length ∧ (RP t).length ≤ 2 * t.length
  | [] => ⟨Nat.le_refl _, Nat.le_refl _⟩
  | c :: r => by
    obtain ⟨h1, h2⟩ := RP_len r
    have e : (RP (c :: r)).length = (rp c).length + (RP r).length := by
      show ((rp c) ++ RP r).length = _
      rw [List.length_append]
    have : 1 ≤ (rp c).length ∧ (rp c).length ≤ 2 := by
      unfold rp
      split
      · exact ⟨by decide, by decide⟩
      · split
        · exact ⟨by decide, by decide⟩
        · exact ⟨Nat.le_refl _, by show 1 ≤ 2; decide⟩
    rw [e, List.length_cons]
    omega
theorem repl_one (a : Nat) (z : List Nat) : ∀ x : List Nat, StrLaws.replL [a] z x = x.flatMap fun c => if c = a then z else [c]
  | [] => StrLaws.replL_nil
  | c :: r => by
    by_cases h : c = a
    · subst h
      rw [StrLaws.replL_hit (List.cons_ne_nil _ _) (by rfl), List.flatMap_cons, if_pos rfl]
      show z ++ StrLaws.replL [c] z r = _
      rw [repl_one c z r]
    · rw [StrLaws.replL_miss (y := [a]) (c := c) (r := r) (fun z => h (List.cons.inj (show [c] = [a] from z)).1), List.flatMap_cons, if_neg h, repl_one a z r]
      rfl
theorem repl_RP (t : List Nat) : StrLaws.replL [41] [32, 41] (StrLaws.replL [40] [40, 32] t) = RP t := by
  rw [repl_one, repl_one, List.flatMap_assoc]
  unfold RP
  congr 1
  funext c
  unfold rp
  by_cases h1 : c = 40
  · subst h1; rfl
  · rw [if_neg h1, if_neg h1]
    by_cases h2 : c = 41
    · subst h2; rfl
    · rw [if_neg h2]
      show (if c = 41 then [32, 41] else [c]) ++ [] = [c]
      rw [if_neg h2]; rfl
theorem repl_40 (t : List Nat) : (StrLaws.replL [40] [40, 32] t).length ≤ 2 * t.length := by
  rw [repl_one]
  induction t with
  | nil => exact Nat.le_refl _
  | cons c r ih =>
    rw [List.flatMap_cons, List.length_append, List.length_cons]
    have : (if c = 40 then [40, 32] else [c]).length ≤ 2 := by split <;> simp
    omega
/-- all words read: the text is no longer than what was read -/
theorem lp_size {n : Nat} {t : List Nat} {q : SQ} (h : lp n (wds (RP t)) = some (q, [])) : (txt q).length ≤ 2 * t.length ∧ dep q ≤ n ∧ WF q := by
  obtain ⟨e, d⟩ := lp_inv n h
  rw [List.append_nil] at e
  refine ⟨?_, d, lp_wf n h⟩
  have j := join_cut (RP t) []
  rw [show TL.spl [32] 0 [] (RP t) = toks q from e, ← RP_txt q (lp_wf n h), List.nil_append] at j
  have h1 := (RP_len (txt q)).1
  have h2 := (RP_len t).2
  rw [j] at h1
  omega
end PL
set_option Elab.async false
set_option linter.all false
set_option maxRecDepth 100000
set_option maxHeartbeats 4000000
/-! Oc81: texts of set questions, by the law and by the program. -/
namespace PL
open PySem PySem.Spec L2

section
variable {ρ : Ro} {fe : EF} {k : Kd} {ds : List D} {d : D} {x : List Nat}
theorem lenTp (h : fe ρ = .ok (k, .tup ds)) : op1 gLen fe ρ = .ok (.cl, .int (ds.length : Nat)) := op1_ok h rfl
theorem ixTp {i : Nat} (h : fe ρ = .ok (k, .tup ds)) (hi : ds[i]? = some d) : op2 gIx fe (eC (.int i)) ρ = .ok (.cl, d) := op2_ok h (k2 := .cl) (y := .int i) rfl (gIx_t hi)
theorem lenE {n : Nat} {b : Bool} (h : fe ρ = .ok (k, .tup ds)) (hb : (ds.length == n) = b) : t2 gEq (op1 gLen fe) (eC (.int n)) ρ = .ok b := t2_ok (k := .cl) (lenTp h) (k2 := .cl) (y := .int n) rfl (by rw [← hb]; exact gEq_n _ n)
theorem callT {f : FD} (h : fe ρ = .ok (k, d)) (hf : f [d] = .ok (.cl, .str x)) : eCall f 1 (aCons fe aNil) ρ = .ok (.cl, .str x) := eCall_ok (es := [(k, d)]) (aCons_ok h rfl) rfl rfl hf rfl
end
theorem str_no (q : SQ) : inst "str" (toD q) = false := by cases q <;> rfl
theorem isO_no (q : SQ) : isO (toD q) = false := by cases q <;> rfl
theorem txt_len2 (w : List Nat) (a b : SQ) : (txt (.two w a b)).length = (txt a).length + w.length + (txt b).length + 4 := by
  show (40 :: (txt a ++ 32 :: (w ++ 32 :: (txt b ++ [41])))).length = _
  simp only [List.length_cons, List.length_append, List.length_nil]
  omega
theorem txt_len1 (w : List Nat) (q : SQ) : (txt (.led w q)).length = w.length + (txt q).length + 1 := by
  show (w ++ 32 :: txt q).length = _
  rw [List.length_append, List.length_cons]; omega
section
variable {ρ : Ro} {fa fb fw : EF} {a b w x : List Nat}
/-- "(" + a + " " + w + " " + b + ")" -/
theorem two_txt (ha : fa ρ = .ok (.cl, .str a)) (hb : fb ρ = .ok (.cl, .str b)) (hw : fw ρ = .ok (.cl, .str w)) (hz : a.length + w.length + b.length ≤ 100000) :
    (op2 gAdd (op2 gAdd (op2 gAdd (op2 gAdd (op2 gAdd (op2 gAdd (eC (.str [40])) fa) (eC (.str [32]))) fw) (eC (.str [32]))) fb) (eC (.str [41]))) ρ = .ok (.cl, .str (40 :: (a ++ 32 :: (w ++ 32 :: (b ++ [41]))))) := by
  have s1 := addS (ρ := ρ) (fa := eC (.str [40])) (fl := fa) (k := .cl) (k2 := .cl) (x := [40]) rfl ha (by rw [List.length_singleton]; omega)
  have s2 := addS (fl := eC (.str [32])) (k2 := .cl) (y := [32]) s1 rfl (by simp only [List.length_append, List.length_singleton]; omega)
  have s3 := addS s2 hw (by simp only [List.length_append, List.length_singleton]; omega)
  have s4 := addS (fl := eC (.str [32])) (k2 := .cl) (y := [32]) s3 rfl (by simp only [List.length_append, List.length_singleton]; omega)
  have s5 := addS s4 hb (by simp only [List.length_append, List.length_singleton]; omega)
  have s6 := addS (fl := eC (.str [41])) (k2 := .cl) (y := [41]) s5 rfl (by simp only [List.length_append, List.length_singleton]; omega)
  rw [s6]
  simp
theorem sp_txt (hw : fw ρ = .ok (.cl, .str w)) (hx : fa ρ = .ok (.cl, .str x)) (hz : w.length + x.length ≤ 100000) : op2 gAdd (op2 gAdd fw (eC (.str [32]))) fa ρ = .ok (.cl, .str (w ++ 32 :: x)) := by
  have s2 := addS (fl := eC (.str [32])) (k2 := .cl) (y := [32]) hw rfl (by simp only [List.length_append, List.length_singleton]; omega)
  have s3 := addS s2 hx (by simp only [List.length_append, List.length_singleton]; omega)
  rw [s3]
  simp
end
theorem set_text_ok : ∀ (q : SQ) (n : Nat), dep q ≤ n → (txt q).length ≤ 90000 → F__law_set_text n [toD q] = .ok (.cl, .str (txt q))
  | .one w, 0, h, _ => absurd h (by show ¬ 1 ≤ 0; omega)
  | .nm w x, 0, h, _ => absurd h (by show ¬ 1 ≤ 0; omega)
  | .led w q, 0, h, _ => absurd h (by show ¬ dep q + 1 ≤ 0; omega)
  | .two w a b, 0, h, _ => absurd h (by show ¬ max (dep a) (dep b) + 1 ≤ 0; omega)
  | .one w, n + 1, h, hz => by
    show fnD 1 1 (B__law_set_text (F__law_set_text n)) [.tup [.str w]] = _
    refine fn_ok (ρ0 := [some (false, .tup [.str w])]) rfl rfl (sSeq_n (skip_n (lenE (k := .cl) (n := 3) rfl rfl)) (sSeq_r (sIf_t (lenE (k := .cl) (n := 1) rfl rfl) (sRet_ok (ixTp (k := .cl) (i := 0) rfl rfl))))) rfl
  | .nm w x, n + 1, h, hz => by
    show fnD 1 1 (B__law_set_text (F__law_set_text n)) [.tup [.str w, .str x]] = _
    have hz : (w ++ 32 :: x).length ≤ 90000 := hz
    rw [List.length_append, List.length_cons] at hz
    have e0 : op2 gIx (eVar 0) (eC (.int (0 : Nat))) [some (false, .tup [.str w, .str x])] = .ok (.cl, .str w) := ixTp (k := .cl) rfl rfl
    have e1 : op2 gIx (eVar 0) (eC (.int (1 : Nat))) [some (false, .tup [.str w, .str x])] = .ok (.cl, .str x) := ixTp (k := .cl) rfl rfl
    exact fn_ok (ρ0 := [some (false, .tup [.str w, .str x])]) rfl rfl (sSeq_n (skip_n (lenE (k := .cl) (n := 3) rfl rfl)) (sSeq_n (skip_n (lenE (k := .cl) (n := 1) rfl rfl)) (sSeq_r (sIf_t (isi_ok e1 rfl) (sRet_ok (sp_txt e0 e1 (by omega))))))) rfl
  | .led w q, n + 1, h, hz => by
    show fnD 1 1 (B__law_set_text (F__law_set_text n)) [.tup [.str w, toD q]] = _
    have hd : dep q + 1 ≤ n + 1 := h
    rw [txt_len1] at hz
    have ih := set_text_ok q n (by omega) (by omega)
    have e0 : op2 gIx (eVar 0) (eC (.int (0 : Nat))) [some (false, .tup [.str w, toD q])] = .ok (.cl, .str w) := ixTp (k := .cl) rfl rfl
    have e1 : op2 gIx (eVar 0) (eC (.int (1 : Nat))) [some (false, .tup [.str w, toD q])] = .ok (.cl, toD q) := ixTp (k := .cl) rfl rfl
    exact fn_ok (ρ0 := [some (false, .tup [.str w, toD q])]) rfl rfl (sSeq_n (skip_n (lenE (k := .cl) (n := 3) rfl rfl)) (sSeq_n (skip_n (lenE (k := .cl) (n := 1) rfl rfl)) (sSeq_n (skip_n (isi_ok e1 (str_no q) (isO_no q))) (sRet_ok (sp_txt e0 (callT e1 ih) (by omega)))))) rfl
  | .two w a b, n + 1, h, hz => by
    show fnD 1 1 (B__law_set_text (F__law_set_text n)) [.tup [.str w, toD a, toD b]] = _
    have hd : max (dep a) (dep b) + 1 ≤ n + 1 := h
    rw [txt_len2] at hz
    have i1 := set_text_ok a n (by omega) (by omega)
    have i2 := set_text_ok b n (by omega) (by omega)
    have e0 : op2 gIx (eVar 0) (eC (.int (0 : Nat))) [some (false, .tup [.str w, toD a, toD b])] = .ok (.cl, .str w) := ixTp (k := .cl) rfl rfl
    have e1 : op2 gIx (eVar 0) (eC (.int (1 : Nat))) [some (false, .tup [.str w, toD a, toD b])] = .ok (.cl, toD a) := ixTp (k := .cl) rfl rfl
    have e2 : op2 gIx (eVar 0) (eC (.int (2 : Nat))) [some (false, .tup [.str w, toD a, toD b])] = .ok (.cl, toD b) := ixTp (k := .cl) rfl rfl
    exact fn_ok (ρ0 := [some (false, .tup [.str w, toD a, toD b])]) rfl rfl (sSeq_r (sIf_t (lenE (k := .cl) (n := 3) rfl rfl) (sRet_ok (two_txt (callT e1 i1) (callT e2 i2) e0 (by omega))))) rfl
/-! the program's -/
theorem TnL {w : List Nat} (h : w ∈ TWO) : w ∉ PLAIN ∧ w ∉ NAMED ∧ w ∉ LED := by
  have : TWO.all (fun w => !PLAIN.contains w && (!NAMED.contains w && !LED.contains w)) = true := by decide
  have := List.all_eq_true.mp this w h
  rw [Bool.and_eq_true, Bool.and_eq_true] at this
  refine ⟨fun m => ?_, fun m => ?_, fun m => ?_⟩
  · have := this.1; rw [in_con m] at this; cases this
  · have := this.2.1; rw [in_con m] at this; cases this
  · have := this.2.2; rw [in_con m] at this; cases this
section
variable {ρ : Ro} {ds : List D} {w : List Nat} {k : Kd} {fe : EF}
theorem inTW (h : fe ρ = .ok (k, .str w)) : t2 (gInT false) fe (eC (.tup (tup_TWO_SETS.map D.str))) ρ = .ok (TWO.contains w) := t2_ok (k := .cl) h (k2 := .cl) rfl gInT_ok
theorem inLE (h : fe ρ = .ok (k, .str w)) : t2 (gInT false) fe (eC (.tup (tup_LED_SETS.map D.str))) ρ = .ok (LED.contains w) := t2_ok (k := .cl) h (k2 := .cl) rfl gInT_ok
end
theorem write_set_ok : ∀ (q : SQ) (n : Nat), WF q → dep q ≤ n → (txt q).length ≤ 90000 → F_write_set n [toD q] = .ok (.cl, .str (txt q))
  | .one w, 0, _, h, _ => absurd h (by show ¬ 1 ≤ 0; omega)
  | .nm w x, 0, _, h, _ => absurd h (by show ¬ 1 ≤ 0; omega)
  | .led w q, 0, _, h, _ => absurd h (by show ¬ dep q + 1 ≤ 0; omega)
  | .two w a b, 0, _, h, _ => absurd h (by show ¬ max (dep a) (dep b) + 1 ≤ 0; omega)
  | .one w, n + 1, hw, h, hz => by
    show fnD 1 1 (B_write_set (F_write_set n)) [.tup [.str w]] = _
    have hz : w.length ≤ 90000 := hz
    have hw : w ∈ PLAIN := hw
    have e0 : op2 gIx (eVar 0) (eC (.int (0 : Nat))) [some (false, .tup [.str w])] = .ok (.cl, .str w) := ixTp (k := .cl) rfl rfl
    have t1 := inTW e0
    have t2 := inLE e0
    rw [in_ncon fun m => (TnL m).1 hw] at t1
    rw [in_ncon fun m => (LnP m).1 hw] at t2
    refine fn_ok (ρ0 := [some (false, .tup [.str w])]) rfl rfl (sSeq_n (skip_n t1) (sSeq_n (skip_n t2) (sRet_ok (mth1_ok (k1 := .cl) (a := [32]) rfl (k2 := .cl) (y := .tup [.str w]) (r := .ok (.cl, .str w)) rfl ?_)))) rfl
    show (if joinSize [32] [w] ≤ 16777216 then _ else _) = _
    exact if_pos (by show w.length + 0 + 1 * 1 ≤ 16777216; omega)
  | .nm w x, n + 1, hw, h, hz => by
    show fnD 1 1 (B_write_set (F_write_set n)) [.tup [.str w, .str x]] = _
    have hz : (w ++ 32 :: x).length ≤ 90000 := hz
    rw [List.length_append, List.length_cons] at hz
    have hw : w ∈ NAMED := hw.1
    have e0 : op2 gIx (eVar 0) (eC (.int (0 : Nat))) [some (false, .tup [.str w, .str x])] = .ok (.cl, .str w) := ixTp (k := .cl) rfl rfl
    have t1 := inTW e0
    have t2 := inLE e0
    rw [in_ncon fun m => (TnL m).2.1 hw] at t1
    rw [in_ncon fun m => (LnP m).2 hw] at t2
    refine fn_ok (ρ0 := [some (false, .tup [.str w, .str x])]) rfl rfl (sSeq_n (skip_n t1) (sSeq_n (skip_n t2) (sRet_ok (mth1_ok (k1 := .cl) (a := [32]) rfl (k2 := .cl) (y := .tup [.str w, .str x]) (r := .ok (.cl, .str (w ++ 32 :: x))) rfl ?_)))) rfl
    show (if joinSize [32] [w, x] ≤ 16777216 then _ else _) = _
    exact if_pos (by show w.length + (x.length + 0) + 2 * 1 ≤ 16777216; omega)
  | .led w q, n + 1, hw, h, hz => by
    show fnD 1 1 (B_write_set (F_write_set n)) [.tup [.str w, toD q]] = _
    have hd : dep q + 1 ≤ n + 1 := h
    rw [txt_len1] at hz
    have ih := write_set_ok q n hw.2 (by omega) (by omega)
    have e0 : op2 gIx (eVar 0) (eC (.int (0 : Nat))) [some (false, .tup [.str w, toD q])] = .ok (.cl, .str w) := ixTp (k := .cl) rfl rfl
    have e1 : op2 gIx (eVar 0) (eC (.int (1 : Nat))) [some (false, .tup [.str w, toD q])] = .ok (.cl, toD q) := ixTp (k := .cl) rfl rfl
    have t1 := inTW e0
    have t2 := inLE e0
    rw [in_ncon fun m => (TnL m).2.2 hw.1] at t1
    rw [in_con hw.1] at t2
    exact fn_ok (ρ0 := [some (false, .tup [.str w, toD q])]) rfl rfl (sSeq_n (skip_n t1) (sSeq_r (sIf_t t2 (sRet_ok (sp_txt e0 (callT e1 ih) (by omega)))))) rfl
  | .two w a b, n + 1, hw, h, hz => by
    show fnD 1 1 (B_write_set (F_write_set n)) [.tup [.str w, toD a, toD b]] = _
    have hd : max (dep a) (dep b) + 1 ≤ n + 1 := h
    rw [txt_len2] at hz
    have i1 := write_set_ok a n hw.2.1 (by omega) (by omega)
    have i2 := write_set_ok b n hw.2.2 (by omega) (by omega)
    have e0 : op2 gIx (eVar 0) (eC (.int (0 : Nat))) [some (false, .tup [.str w, toD a, toD b])] = .ok (.cl, .str w) := ixTp (k := .cl) rfl rfl
    have e1 : op2 gIx (eVar 0) (eC (.int (1 : Nat))) [some (false, .tup [.str w, toD a, toD b])] = .ok (.cl, toD a) := ixTp (k := .cl) rfl rfl
    have e2 : op2 gIx (eVar 0) (eC (.int (2 : Nat))) [some (false, .tup [.str w, toD a, toD b])] = .ok (.cl, toD b) := ixTp (k := .cl) rfl rfl
    have t1 := inTW e0
    rw [in_con hw.1] at t1
    exact fn_ok (ρ0 := [some (false, .tup [.str w, toD a, toD b])]) rfl rfl (sSeq_r (sIf_t t1 (sRet_ok (two_txt (callT e1 i1) (callT e2 i2) e0 (by omega))))) rfl
end PL
set_option Elab.async false
set_option linter.all false
set_option maxRecDepth 100000
set_option maxHeartbeats 4000000
/-! Od81: what the law says is due. -/
namespace PL
open PySem PySem.Spec L2

abbrev D5 (s : List Nat) (ps : List (List Nat)) (x y z : Sl) : Ro := [some (false, .str s), some (true, .lst (ps.map D.str)), x, y, z]
section
variable {s : List Nat} {ps : List (List Nat)} {x y z : Sl}
theorem ixD {i : Nat} {w : List Nat} (h : ps[i]? = some w) : op2 gIx (eVar 1) (eC (.int i)) (D5 s ps x y z) = .ok (.cl, .str w) := op2_ok (k1 := .pk) (x := .lst (ps.map D.str)) rfl (k2 := .cl) (y := .int i) rfl (gIx_t0 h)
theorem lenD : op1 gLen (eVar 1) (D5 s ps x y z) = .ok (.cl, .int (ps.length : Nat)) := by
  refine op1_ok (k1 := .pk) (x := .lst (ps.map D.str)) rfl ?_
  show R.ok (Kd.cl, D.int ((ps.map D.str).length : Nat)) = _
  rw [List.length_map]
theorem lenD2 {qs : List (List Nat)} : op1 gLen (eVar 2) (D5 s ps (some (true, .lst (qs.map D.str))) y z) = .ok (.cl, .int (qs.length : Nat)) := by
  refine op1_ok (k1 := .pk) (x := .lst (qs.map D.str)) rfl ?_
  show R.ok (Kd.cl, D.int ((qs.map D.str).length : Nat)) = _
  rw [List.length_map]
end
def SETS : List Nat := [115, 101, 116, 32]
def setB : SF := (sSeq (sSet 2 (mth1 gSplit (op1 (gRepl [41] [32, 41]) (op1 (gRepl [40] [40, 32]) (eSl (eVar 0) (oSome (eC (.int 4))) (oNo)))) (eC (.str [32])))) <|
    sSeq (sSet 3 (eCall (F__law_set_part 200) 2 (aCons (eVar 2) (aCons (eC (.int 0)) (aNil))))) <|
    sSeq (sIf (tOrF (tE' (eIsN false (eVar 3))) (tOrF (t2 gNe (op2 gIx (eVar 3) (eC (.int 1))) (op1 gLen (eVar 2))) (t2 gNe (op2 gAdd (eC (.str [115, 101, 116, 32])) (eCall (F__law_set_text 200) 1 (aCons (op2 gIx (eVar 3) (eC (.int 0))) (aNil)))) (eVar 0)))) (sRet (eC .non)) (sSkip)) <|
    sSeq (sRet (disp (fun ds => (.cl, .tup ds)) (aCons (eC (.str [115, 101, 116])) (aCons (op2 gIx (eVar 3) (eC (.int 0))) (aNil))))) <|
    sSkip)
theorem setB_ok {s : List Nat} {ps : List (List Nat)} (hz : s.length ≤ 400) (hc : cnt s < 110) (hs : s = SET ∨ ∃ r, s = SET ++ 32 :: r) : setB (D5 s ps none none none) = .rt (.cl, ((DQs 200 (s.drop 4)).map fun q => D.tup [.str SET, toD q]).getD .non) := by
  let t := s.drop 4
  have tz : t.length ≤ 400 := by show (s.drop 4).length ≤ 400; rw [List.length_drop]; omega
  have tc : cnt t < 110 := by
    have : cnt t ≤ cnt s := List.Sublist.countP_le (List.drop_sublist 4 s)
    omega
  have e1 : eSl (eVar 0) (oSome (eC (.int 4))) oNo (D5 s ps none none none) = .ok (.cl, .str t) := slFrom (n := 4) (k := .cl) (k2 := .cl) rfl rfl (by omega)
  have z1 := repl_40 t
  have e2 : op1 (gRepl [40] [40, 32]) (eSl (eVar 0) (oSome (eC (.int 4))) oNo) (D5 s ps none none none) = .ok (.cl, .str (StrLaws.replL [40] [40, 32] t)) := op1_ok e1 (gRepl_ok (by show t.length + (t.length + 1) * 2 ≤ 16777216; omega))
  have e3 : op1 (gRepl [41] [32, 41]) (op1 (gRepl [40] [40, 32]) (eSl (eVar 0) (oSome (eC (.int 4))) oNo)) (D5 s ps none none none) = .ok (.cl, .str (RP t)) := by
    rw [← repl_RP]
    refine op1_ok e2 (gRepl_ok ?_)
    show (StrLaws.replL [40] [40, 32] t).length + ((StrLaws.replL [40] [40, 32] t).length + 1) * 2 ≤ 16777216
    omega
  have z2 := (RP_len t).2
  let T := wds (RP t)
  have e4 : sSet 2 (mth1 gSplit (op1 (gRepl [41] [32, 41]) (op1 (gRepl [40] [40, 32]) (eSl (eVar 0) (oSome (eC (.int 4))) (oNo)))) (eC (.str [32]))) (D5 s ps none none none) = .nx (D5 s ps (some (true, .lst (T.map D.str))) none none) :=
    sSet_f (split1 32 (by decide) e3 (by omega)) (by show 2 < 5; decide)
  have lT : T.length = cnt t + 1 := by
    show (TL.spl [32] 0 [] (RP t)).length = _
    rw [spl_cnt, RP_cnt]
  have hT : ∀ p ∈ T, p.length ≤ 90000 := fun p hp => by
    have := (spl_count 32 (RP t) []).2 p hp
    rw [List.length_nil] at this
    omega
  have pt := part_all 200 T [] T 0 rfl rfl (by omega) hT
  unfold setB
  rw [sSeq_n e4 rfl]
  have hD : DQs 200 t = match lp 200 T with
    | some (q, []) => if txt q = t then some q else none
    | _ => none := rfl
  cases e : lp 200 T with
  | none =>
    rw [e] at pt hD
    have c1 : eCall (F__law_set_part 200) 2 (aCons (eVar 2) (aCons (eC (.int 0)) (aNil))) (D5 s ps (some (true, .lst (T.map D.str))) none none) = .ok (.cl, .non) := eCall_ok (es := [(.pk, .lst (T.map D.str)), (.cl, .int ((0 : Nat) : Int))]) rfl rfl rfl pt rfl
    rw [sSeq_n (ρ1 := D5 s ps (some (true, .lst (T.map D.str))) (some (false, .non)) none) (sSet_c c1) rfl, sSeq_r (non_t (tOr_t (isNn rfl)))]
    show _ = SRes.rt (Kd.cl, ((DQs 200 t).map fun q => D.tup [.str SET, toD q]).getD .non)
    rw [hD]
    rfl
  | some v =>
    obtain ⟨q, r⟩ := v
    rw [e] at pt hD
    let m := T.length - r.length
    have c1 : eCall (F__law_set_part 200) 2 (aCons (eVar 2) (aCons (eC (.int 0)) (aNil))) (D5 s ps (some (true, .lst (T.map D.str))) none none) = .ok (.cl, .tup [toD q, .int (m : Nat)]) := by
      refine eCall_ok (es := [(.pk, .lst (T.map D.str)), (.cl, .int ((0 : Nat) : Int))]) rfl rfl rfl pt ?_
      show (noL (toD q) && (true && true)) = true
      rw [noL_toD]; rfl
    let ρ := D5 s ps (some (true, .lst (T.map D.str))) (some (false, .tup [toD q, .int (m : Nat)])) none
    rw [sSeq_n (ρ1 := ρ) (sSet_c c1) rfl]
    have n3 : tE' (eIsN false (eVar 3)) ρ = .ok false := isNt rfl
    have q3 : t2 gNe (op2 gIx (eVar 3) (eC (.int 1))) (op1 gLen (eVar 2)) ρ = .ok (!(m == T.length)) := t2_ok (k := .cl) (k1 := .cl) (x := .int (m : Nat)) rfl lenD2 (gNe_n _ _)
    have tl : (lp_inv 200 e).1 = (lp_inv 200 e).1 := rfl
    have eT := (lp_inv 200 e).1
    have ne := toks_ne q
    have lT2 : T.length = (toks q).length + r.length := by rw [eT, List.length_append]
    have ln : 0 < (toks q).length := List.length_pos_iff.mpr ne
    show _ = SRes.rt (Kd.cl, ((DQs 200 t).map fun q => D.tup [.str SET, toD q]).getD .non)
    cases r with
    | cons a r' =>
      have : (m == T.length) = false := beq_false_of_ne (by show T.length - (r'.length + 1) ≠ T.length; omega)
      rw [this] at q3
      rw [sSeq_r (non_t (tOr_f n3 (tOr_t q3))), hD]
      rfl
    | nil =>
      have : (m == T.length) = true := beq_iff_eq.mpr rfl
      rw [this] at q3
      obtain ⟨sz, dq, wq⟩ := lp_size e
      have tx : F__law_set_text 200 [toD q] = .ok (.cl, .str (txt q)) := set_text_ok q 200 dq (by omega)
      have ct : op2 gAdd (eC (.str [115, 101, 116, 32])) (eCall (F__law_set_text 200) 1 (aCons (op2 gIx (eVar 3) (eC (.int 0))) (aNil))) ρ = .ok (.cl, .str (SETS ++ txt q)) :=
        addS (k := .cl) (x := SETS) rfl (callT (k := .cl) (d := toD q) (x := txt q) rfl tx) (by show 4 + (txt q).length ≤ 16777216; omega)
      have n4 : t2 gNe (op2 gAdd (eC (.str [115, 101, 116, 32])) (eCall (F__law_set_text 200) 1 (aCons (op2 gIx (eVar 3) (eC (.int 0))) (aNil)))) (eVar 0) ρ = .ok (!(SETS ++ txt q == s)) := t2_ok (k := .cl) ct (k2 := .cl) (y := .str s) rfl gNe_s
      have key : (SETS ++ txt q = s) ↔ txt q = t := by
        rcases hs with e0 | ⟨r, e0⟩
        · have h0 : t = [] := by show s.drop 4 = []; rw [e0]; rfl
          have : lp 200 T = none := by show lp 200 (wds (RP t)) = none; rw [h0]; rfl
          rw [this] at e; cases e
        · have h0 : t = r := by show s.drop 4 = r; rw [e0]; rfl
          rw [h0, e0]
          exact ⟨fun h => by
            have : SETS ++ txt q = SETS ++ r := h
            exact List.append_cancel_left this, fun h => by rw [h]; rfl⟩
      have hD : DQs 200 t = if txt q = t then some q else none := hD
      by_cases c : txt q = t
      · rw [show (SETS ++ txt q == s) = true from beq_iff_eq.mpr (key.mpr c)] at n4
        rw [hD, if_pos c, sSeq_n (ρ1 := ρ) (skip_n (tOr_f n3 (tOr_f q3 n4))) rfl]
        rfl
      · rw [show (SETS ++ txt q == s) = false from beq_false_of_ne fun z => c (key.mp z)] at n4
        rw [hD, if_neg c, sSeq_r (non_t (tOr_f n3 (tOr_f q3 n4)))]
        rfl
end PL
set_option Elab.async false
set_option linter.all false
set_option maxRecDepth 100000
set_option maxHeartbeats 4000000
/-! Oe81: what the law says is due, whole. -/
namespace PL
open PySem PySem.Spec L2

def W3 : List (List Nat) := [WAY, [119, 97, 121, 115], [99, 111, 117, 110, 116]]
theorem W3_iff {w : List Nat} : w ∈ W3 ↔ w = WAY ∨ w ∈ tup_COUNTED := List.mem_cons
theorem way_no : WAY ∉ tup_COUNTED := by decide
def dueT : TF := (tOrF (t2 (gIn true) (op2 gIx (eVar 1) (eC (.int 0))) (disp (fun ds => (.fr, .lst ds)) (aCons (eC (.str [119, 97, 121])) (aCons (eC (.str [119, 97, 121, 115])) (aCons (eC (.str [99, 111, 117, 110, 116])) (aNil)))))) (tOrF (t2 gNe (op1 gLen (eVar 1)) (op2 gAdd (eC (.int 3)) (op1 gInt (op2 gNe (op2 gIx (eVar 1) (eC (.int 0))) (eC (.str [119, 97, 121])))))) (tOrF (tNotF (tVal (eCall (F__law_is_path) 1 (aCons (op2 gIx (eVar 1) (eC (.int 1))) (aNil))))) (tNotF (tVal (eCall (F__law_is_path) 1 (aCons (op2 gIx (eVar 1) (eC (.int 2))) (aNil))))))))
def dueR : SF :=
    sSeq (sIf (t2 gEq (op2 gIx (eVar 1) (eC (.int 0))) (eC (.str [119, 97, 121]))) (sRet (disp (fun ds => (.cl, .tup ds)) (aCons (eC (.str [119, 97, 121])) (aCons (op2 gIx (eVar 1) (eC (.int 1))) (aCons (op2 gIx (eVar 1) (eC (.int 2))) (aNil)))))) (sSkip)) <|
    sSeq (sIf (t2 (gIn true) (op2 gIx (eVar 1) (eC (.int 3))) (lcF (iRng (eC (.int 13))) [4] (gNm 4) (tYesF) (op1 gStrA (eVar 4)))) (sRet (eC .non)) (sSkip)) <|
    sSeq (sRet (disp (fun ds => (.cl, .tup ds)) (aCons (op2 gIx (eVar 1) (eC (.int 0))) (aCons (op2 gIx (eVar 1) (eC (.int 1))) (aCons (op2 gIx (eVar 1) (eC (.int 2))) (aCons (op1 gIntS (op2 gIx (eVar 1) (eC (.int 3)))) (aNil))))))) <|
    sSkip
def dueB : SF := sSeq (sIf dueT (sRet (eC .non)) sSkip) dueR
theorem due_split : B__law_due = (sSeq (sSet 1 (mth1 gSplit (eVar 0) (eC (.str [32])))) <|
    sSeq (sIf (t2 gGt (op1 gLen (eVar 0)) (eC (.int 400))) (sRet (eC .non)) (sSkip)) <|
    sSeq (sIf (t2 gEq (op2 gIx (eVar 1) (eC (.int 0))) (eC (.str [115, 101, 116]))) setB sSkip) dueB) := rfl
section
variable {s w : List Nat} {ps : List (List Nat)}
abbrev Dw (s w : List Nat) (ps : List (List Nat)) : Ro := D5 s (w :: ps) none none none
theorem nums_ok : lcF (iRng (eC (.int 13))) [4] (gNm 4) (tYesF) (op1 gStrA (eVar 4)) (Dw s w ps) = .ok (.fr, .lst (numW.map D.str)) := by
  have r : iRng (eC (.int 13)) (Dw s w ps) = .ok (false, (List.range' 0 13).map fun k : Nat => D.int k) := iRng_ok (n := 13) (k := .cl) rfl (by decide)
  have e : numW.map D.str = (List.range' 0 13).map fun k => D.str (TL.numL k) := by
    unfold numW
    rw [List.map_map, List.range_eq_range']
    rfl
  rw [e]
  refine lcF_ok r (by show ((List.range' 0 13).map _).length ≤ _; rw [List.length_map, List.length_range']; decide) ?_
  refine lcA_map (k := fun k : Nat => D.int k) (g := fun k => D.str (TL.numL k)) fun n hn => ?_
  have h13 : n < 13 := by
    obtain ⟨i, hi, e⟩ := List.mem_range'.mp hn
    omega
  have g : gStr (.int (n : Nat)) = .ok (.cl, .str (TL.numL n)) := gStr_ok (by omega)
  have g2 : gStrA (.int (n : Nat)) = .ok (.cl, .str (TL.numL n)) := g
  exact turn_ok (e := (.cl, .str (TL.numL n))) (ρ1 := (wipeR (Dw s w ps) [4]).set 4 (some (false, .int (n : Nat)))) rfl rfl (op1_ok (k1 := .cl) (x := .int (n : Nat)) rfl g2) rfl
theorem dueT_no (h : w ∉ W3) : dueT (Dw s w ps) = .ok true := by
  refine tOr_t (t2_ok (k := .cl) (ixD (i := 0) (w := w) rfl) (k2 := .fr) (y := .lst (W3.map D.str)) rfl ?_)
  rw [gNin_ls, in_ncon h]; rfl
theorem dueT_in (h : w ∈ W3) : t2 (gIn true) (op2 gIx (eVar 1) (eC (.int 0))) (disp (fun ds => (.fr, .lst ds)) (aCons (eC (.str [119, 97, 121])) (aCons (eC (.str [119, 97, 121, 115])) (aCons (eC (.str [99, 111, 117, 110, 116])) (aNil))))) (Dw s w ps) = .ok false := by
  refine t2_ok (k := .cl) (ixD (i := 0) (w := w) rfl) (k2 := .fr) (y := .lst (W3.map D.str)) rfl ?_
  rw [gNin_ls, in_con h]; rfl
def lenW (w : List Nat) : Nat := if w = WAY then 3 else 4
theorem dueT_len : t2 gNe (op1 gLen (eVar 1)) (op2 gAdd (eC (.int 3)) (op1 gInt (op2 gNe (op2 gIx (eVar 1) (eC (.int 0))) (eC (.str [119, 97, 121]))))) (Dw s w ps) = .ok (!((w :: ps).length == lenW w)) := by
  have e1 : op2 gNe (op2 gIx (eVar 1) (eC (.int 0))) (eC (.str [119, 97, 121])) (Dw s w ps) = .ok (.cl, .bl (!(w == WAY))) := op2_ok (ixD (i := 0) (w := w) rfl) (k2 := .cl) (y := .str WAY) rfl gNe_s
  have e2 : op2 gAdd (eC (.int 3)) (op1 gInt (op2 gNe (op2 gIx (eVar 1) (eC (.int 0))) (eC (.str [119, 97, 121])))) (Dw s w ps) = .ok (.cl, .int (lenW w : Nat)) := by
    refine op2_ok (k1 := .cl) (x := .int 3) rfl (op1_ok e1 rfl) ?_
    unfold lenW
    by_cases c : w = WAY
    · rw [if_pos c, beq_iff_eq.mpr c]; rfl
    · rw [if_neg c, beq_false_of_ne c]; rfl
  exact t2_ok (k := .cl) lenD e2 (gNe_n _ _)
theorem dueT_run {a b : List Nat} (h : w ∈ W3) (hl : (w :: ps).length = lenW w) (ha : ps[0]? = some a) (hb : ps[1]? = some b) (za : a.length ≤ 90000) (zb : b.length ≤ 90000) : dueT (Dw s w ps) = .ok (!(isPath a && isPath b)) := by
  have l := dueT_len (s := s) (w := w) (ps := ps)
  rw [show ((w :: ps).length == lenW w) = true from beq_iff_eq.mpr hl] at l
  have p1 := tNot_ok (tVal_b (callB (f := F__law_is_path) (ixD (s := s) (ps := w :: ps) (x := none) (y := none) (z := none) (i := 1) (w := a) ha) (lpath_ok za)))
  have p2 := tNot_ok (tVal_b (callB (f := F__law_is_path) (ixD (s := s) (ps := w :: ps) (x := none) (y := none) (z := none) (i := 2) (w := b) hb) (lpath_ok zb)))
  refine (tOr_f (dueT_in h) (tOr_f l (tOr_ok p1 p2))).trans ?_
  rw [Bool.not_and]
theorem due_no (h : dueT (Dw s w ps) = .ok true) : dueB (Dw s w ps) = .rt (.cl, .non) := sSeq_r (non_t h)
theorem dueB_ok (hz : ∀ p ∈ ps, p.length ≤ 90000) : dueB (Dw s w ps) = .rt (.cl, (other (w :: ps)).getD .non) := by
  by_cases h : w ∈ W3
  · by_cases hl : (w :: ps).length = lenW w
    · have h3 := W3_iff.mp h
      have run : ∀ a b, ps[0]? = some a → ps[1]? = some b → dueT (Dw s w ps) = .ok (!(isPath a && isPath b)) := fun a b ha hb => dueT_run h hl ha hb (hz a (List.mem_of_getElem? ha)) (hz b (List.mem_of_getElem? hb))
      have tw : t2 gEq (op2 gIx (eVar 1) (eC (.int 0))) (eC (.str [119, 97, 121])) (Dw s w ps) = .ok (w == WAY) := t2_ok (k := .cl) (ixD (i := 0) (w := w) rfl) (k2 := .cl) (y := .str WAY) rfl gEq_s
      by_cases c : w = WAY
      · rw [show (w == WAY) = true from beq_iff_eq.mpr c] at tw
        unfold lenW at hl
        rw [if_pos c] at hl
        match ps, hl, run, tw with
        | [a, b], _, run, tw =>
          have run := run a b rfl rfl
          show _ = SRes.rt (Kd.cl, (if w = WAY ∧ isPath a = true ∧ isPath b = true then some (D.tup [.str w, .str a, .str b]) else none).getD .non)
          by_cases p : isPath a = true ∧ isPath b = true
          · rw [p.1, p.2] at run
            rw [if_pos ⟨c, p⟩, c]
            rw [c] at run tw
            refine sSeq_n (skip_n run) (sSeq_r (sIf_t tw (sRet_ok (disp_ok (es := [(.cl, .str WAY), (.cl, .str a), (.cl, .str b)]) (aCons_ok rfl (aCons_ok (ixD (i := 1) (w := a) rfl) (aCons_ok (ixD (i := 2) (w := b) rfl) rfl))) rfl (by show 3 ≤ 16777216; decide) rfl))))
          · have : (isPath a && isPath b) = false := by
              cases h1 : isPath a <;> cases h2 : isPath b <;> first | rfl | exact absurd ⟨h1, h2⟩ p
            rw [this] at run
            rw [if_neg fun z => p z.2]
            exact due_no run
      · rw [show (w == WAY) = false from beq_false_of_ne c] at tw
        unfold lenW at hl
        rw [if_neg c] at hl
        have hw : w ∈ tup_COUNTED := h3.resolve_left c
        match ps, hl, run, tw with
        | [a, b, n], _, run, tw =>
          have run := run a b rfl rfl
          show _ = SRes.rt (Kd.cl, (if w ∈ tup_COUNTED ∧ isPath a = true ∧ isPath b = true ∧ n ∈ numW then some (D.tup [.str w, .str a, .str b, .int (valN n : Nat)]) else none).getD .non)
          by_cases p : isPath a = true ∧ isPath b = true
          · rw [p.1, p.2] at run
            have tn : t2 (gIn true) (op2 gIx (eVar 1) (eC (.int 3))) (lcF (iRng (eC (.int 13))) [4] (gNm 4) (tYesF) (op1 gStrA (eVar 4))) (Dw s w [a, b, n]) = .ok (!numW.contains n) := t2_ok (k := .cl) (ixD (i := 3) (w := n) rfl) nums_ok gNin_ls
            by_cases m : n ∈ numW
            · rw [in_con m] at tn
              rw [if_pos ⟨hw, p.1, p.2, m⟩]
              have ok : okNum n = true := by
                have := num_iff n
                rw [in_con m, Bool.and_eq_true] at this
                exact this.1
              refine sSeq_n (skip_n run) (sSeq_n (skip_n tw) (sSeq_n (skip_n tn) (sSeq_r (sRet_ok (disp_ok (es := [(.cl, .str w), (.cl, .str a), (.cl, .str b), (.cl, .int (valN n : Nat))]) (aCons_ok (ixD (i := 0) (w := w) rfl) (aCons_ok (ixD (i := 1) (w := a) rfl) (aCons_ok (ixD (i := 2) (w := b) rfl) (aCons_ok (op1_ok (ixD (i := 3) (w := n) rfl) (gIntS_ok ok)) rfl)))) rfl (by show 4 ≤ 16777216; decide) rfl)))))
            · rw [in_ncon m] at tn
              rw [if_neg fun z => m z.2.2.2]
              exact sSeq_n (skip_n run) (sSeq_n (skip_n tw) (sSeq_r (non_t tn)))
          · have : (isPath a && isPath b) = false := by
              cases h1 : isPath a <;> cases h2 : isPath b <;> first | rfl | exact absurd ⟨h1, h2⟩ p
            rw [this] at run
            rw [if_neg fun z => p ⟨z.2.1, z.2.2.1⟩]
            exact due_no run
    · have l := dueT_len (s := s) (w := w) (ps := ps)
      rw [show ((w :: ps).length == lenW w) = false from beq_false_of_ne hl] at l
      rw [due_no (tOr_f (dueT_in h) (tOr_t l))]
      have : other (w :: ps) = none := by
        unfold lenW at hl
        match ps, hl with
        | [], _ => rfl
        | [_], _ => rfl
        | [a, b], hl =>
          show (if w = WAY ∧ isPath a = true ∧ isPath b = true then some (D.tup [.str w, .str a, .str b]) else none) = none
          refine if_neg fun z => hl ?_
          rw [if_pos z.1]; rfl
        | [a, b, n], hl =>
          show (if w ∈ tup_COUNTED ∧ isPath a = true ∧ isPath b = true ∧ n ∈ numW then some (D.tup [.str w, .str a, .str b, .int (valN n : Nat)]) else none) = none
          refine if_neg fun z => hl ?_
          rw [if_neg (show ¬ w = WAY from fun e => way_no (by rw [← e]; exact z.1))]; rfl
        | _ :: _ :: _ :: _ :: _, _ => rfl
      rw [this]
      rfl
  · rw [due_no (dueT_no h)]
    have : other (w :: ps) = none := by
      match ps with
      | [] => rfl
      | [_] => rfl
      | [a, b] =>
        show (if w = WAY ∧ isPath a = true ∧ isPath b = true then some (D.tup [.str w, .str a, .str b]) else none) = none
        exact if_neg fun z => h (W3_iff.mpr (.inl z.1))
      | [a, b, n] =>
        show (if w ∈ tup_COUNTED ∧ isPath a = true ∧ isPath b = true ∧ n ∈ numW then some (D.tup [.str w, .str a, .str b, .int (valN n : Nat)]) else none) = none
        exact if_neg fun z => h (W3_iff.mpr (.inr z.1))
      | _ :: _ :: _ :: _ :: _ => rfl
    rw [this]
    rfl
end
theorem due_ok {s : List Nat} (hz : s.length ≤ 90000) (hc : cnt s < 110) : F__law_due [.str s] = .ok (.cl, (Qs s).getD .non) := by
  show fnD 5 1 B__law_due [.str s] = _
  rw [due_split]
  have s1 : sSet 1 (mth1 gSplit (eVar 0) (eC (.str [32]))) [some (false, .str s), none, none, none, none] = .nx (D5 s (wds s) none none none) := sSet_f (split1 32 (by decide) (k := .cl) rfl hz) (by show 1 < 5; decide)
  have t1 : t2 gGt (op1 gLen (eVar 0)) (eC (.int 400)) (D5 s (wds s) none none none) = .ok (decide (400 < s.length)) := t2_ok (k := .cl) (lenS (k := .cl) rfl (by omega)) (k2 := .cl) (y := .int ((400 : Nat) : Int)) rfl (gGt_n _ 400)
  unfold Qs
  by_cases h : s.length ≤ 400
  · rw [decide_eq_false (by omega)] at t1
    rw [if_pos h]
    have hp : ∀ p ∈ wds s, p.length ≤ 90000 := fun p hp => by
      have := (spl_count 32 s []).2 p hp
      rw [List.length_nil] at this
      omega
    have st : (wds s = [s] ∧ 32 ∉ s) ∨ ∃ p r, s = p ++ 32 :: r ∧ wds s = p :: wds r := by
      rcases cut_cases s with ⟨n, e, _⟩ | ⟨p, r, e, _, e2, _⟩
      · exact .inl ⟨e, n⟩
      · exact .inr ⟨p, r, e, e2⟩
    have dc : cnt (s.drop 4) + 1 ≤ 110 := by
      have : cnt (s.drop 4) ≤ cnt s := List.Sublist.countP_le (List.drop_sublist 4 s)
      omega
    have rd := RD_eq (n := 110) (m := 200) (t := s.drop 4) dc (by omega)
    have go : ∀ w ps, wds s = w :: ps → (w = SET → s = SET ∨ ∃ r, s = SET ++ 32 :: r) → fnD 5 1 (sSeq (sSet 1 (mth1 gSplit (eVar 0) (eC (.str [32])))) <|
        sSeq (sIf (t2 gGt (op1 gLen (eVar 0)) (eC (.int 400))) (sRet (eC .non)) (sSkip)) <|
        sSeq (sIf (t2 gEq (op2 gIx (eVar 1) (eC (.int 0))) (eC (.str [115, 101, 116]))) setB sSkip) dueB) [.str s] = .ok (.cl, (inW w ps s).getD .non) := fun w ps e hw => by
      rw [e] at s1 t1
      have t2' : t2 gEq (op2 gIx (eVar 1) (eC (.int 0))) (eC (.str [115, 101, 116])) (Dw s w ps) = .ok (w == SET) := t2_ok (k := .cl) (ixD (i := 0) (w := w) rfl) (k2 := .cl) (y := .str SET) rfl gEq_s
      unfold inW
      by_cases c : w = SET
      · rw [show (w == SET) = true from beq_iff_eq.mpr c] at t2'
        rw [if_pos c, rd]
        exact fn_ok (ρ0 := [some (false, .str s), none, none, none, none]) rfl rfl (sSeq_n s1 (sSeq_n (skip_n t1) (sSeq_r (sIf_t t2' (setB_ok h hc (hw c)))))) rfl
      · rw [show (w == SET) = false from beq_false_of_ne c] at t2'
        rw [if_neg c]
        exact fn_ok (ρ0 := [some (false, .str s), none, none, none, none]) rfl rfl (sSeq_n s1 (sSeq_n (skip_n t1) (sSeq_n (skip_n t2') (dueB_ok fun p m => hp p (by rw [e]; exact List.mem_cons_of_mem _ m))))) rfl
    rcases st with ⟨e, n⟩ | ⟨p, r, e, e2⟩
    · rw [go s [] e fun c => .inl c, e]
    · rw [go p (wds r) e2 fun c => .inr ⟨r, by rw [e, c]⟩, e2]
  · rw [decide_eq_true (by omega)] at t1
    rw [if_neg h]
    exact fn_ok (ρ0 := [some (false, .str s), none, none, none, none]) rfl rfl (sSeq_n s1 (sSeq_r (non_t t1))) rfl
end PL
set_option Elab.async false
set_option linter.all false
set_option maxRecDepth 100000
set_option maxHeartbeats 4000000
/-! Of81: what is the same as itself; texts of questions, both. -/
namespace PL
open PySem PySem.Spec L2

inductive Smp : Nat → D → Prop
  | non {n : Nat} : Smp (n + 1) .non
  | int {n : Nat} (i : Int) : Smp (n + 1) (.int i)
  | str {n : Nat} (x : List Nat) : Smp (n + 1) (.str x)
  | tup {n : Nat} (ds : List D) (hl : ds.length < 1000) (h : ∀ d ∈ ds, Smp n d) : Smp (n + 1) (.tup ds)
  | lst {n : Nat} (ds : List D) (hl : ds.length < 1000) (h : ∀ d ∈ ds, Smp n d) : Smp (n + 1) (.lst ds)
def smB (G : FD) : SF := (sIf (tNotF (tVal (eCall (G) 2 (aCons (op2 gIx (eVar 0) (eVar 2)) (aCons (op2 gIx (eVar 1) (eVar 2)) (aNil)))))) (sRet (eC (.bl false))) (sSkip))
theorem sm_loop {G : FD} {d : D} {ds : List D} (hix : ∀ (i : Nat) (x : D), ds[i]? = some x → gIx d (.int i) = .ok (.cl, x)) (hG : ∀ x ∈ ds, G [x, x] = .ok (.cl, .bl true)) : ∀ (ks : List Nat) (z : Sl), (∀ k ∈ ks, k < ds.length) →
    ∃ z', forL (gNm 2) (smB G) (ks.map fun k : Nat => D.int k) [some (false, d), some (false, d), z] = .nx [some (false, d), some (false, d), z']
  | [], z, _ => ⟨z, rfl⟩
  | k :: ks, z, h => by
    have hk := h k List.mem_cons_self
    obtain ⟨z', ih⟩ := sm_loop hix hG ks (some (false, .int (k : Nat))) fun q hq => h q (List.mem_cons_of_mem _ hq)
    have e : ds[k]? = some ds[k] := List.getElem?_eq_getElem hk
    have i0 : op2 gIx (eVar 0) (eVar 2) [some (false, d), some (false, d), some (false, .int (k : Nat))] = .ok (.cl, ds[k]) := op2_ok (k1 := .cl) (x := d) rfl (k2 := .cl) (y := .int (k : Nat)) rfl (hix k _ e)
    have i1 : op2 gIx (eVar 1) (eVar 2) [some (false, d), some (false, d), some (false, .int (k : Nat))] = .ok (.cl, ds[k]) := op2_ok (k1 := .cl) (x := d) rfl (k2 := .cl) (y := .int (k : Nat)) rfl (hix k _ e)
    have c : eCall G 2 (aCons (op2 gIx (eVar 0) (eVar 2)) (aCons (op2 gIx (eVar 1) (eVar 2)) (aNil))) [some (false, d), some (false, d), some (false, .int (k : Nat))] = .ok (.cl, .bl true) := eCall_ok (es := [(.cl, ds[k]), (.cl, ds[k])]) (aCons_ok i0 (aCons_ok i1 rfl)) rfl rfl (hG _ (List.getElem_mem hk)) rfl
    have b : smB G [some (false, d), some (false, d), some (false, .int (k : Nat))] = .nx [some (false, d), some (false, d), some (false, .int (k : Nat))] := skip_n (tNot_ok (tVal_b c))
    exact ⟨z', forL_n (ρ1 := [some (false, d), some (false, d), some (false, .int (k : Nat))]) rfl b ih⟩
theorem isiv {n : String} {ρ : Ro} {i : Nat} {d : D} {b : Bool} (h : ρ[i]? = some (some (false, d))) (hb : inst n d = b) (ho : isO d = false := by rfl) : tVal (eIsi n (eVar i)) ρ = .ok b := isi_ok (k := .cl) (d := d) (by unfold eVar; rw [h]) hb ho
theorem isiEv {n : String} {ρ : Ro} {i : Nat} {d : D} {b : Bool} (h : ρ[i]? = some (some (false, d))) (hb : inst n d = b) (ho : isO d = false := by rfl) : eIsi n (eVar i) ρ = .ok (.cl, .bl b) := isiE (k := .cl) (d := d) (by unfold eVar; rw [h]) hb ho
theorem same_ok : ∀ {n : Nat} {d : D}, Smp n d → F__law_same n [d, d] = .ok (.cl, .bl true)
  | 0, _, h => nomatch h
  | n + 1, .non, _ => by
    show fnD 3 2 (B__law_same (F__law_same n)) [.non, .non] = _
    have e : eIsN false (eVar 0) [some (false, D.non), some (false, D.non), none] = .ok (.cl, .bl true) := rfl
    exact fn_ok (ρ0 := [some (false, .non), some (false, .non), none]) rfl rfl (sSeq_r (sIf_f (isiv rfl rfl) (sIf_f (isiv rfl rfl) (sIf_t (isNn rfl) (sRet_ok e))))) rfl
  | n + 1, .int i, _ => by
    show fnD 3 2 (B__law_same (F__law_same n)) [.int i, .int i] = _
    have e : op2 gEq (eVar 0) (eVar 1) [some (false, D.int i), some (false, D.int i), none] = .ok (.cl, .bl true) := op2_ok (k1 := .cl) (x := .int i) rfl (k2 := .cl) (y := .int i) rfl (by rw [gEq_i, beq_self_eq_true])
    exact fn_ok (ρ0 := [some (false, .int i), some (false, .int i), none]) rfl rfl (sSeq_r (sIf_f (isiv rfl rfl) (sIf_f (isiv rfl rfl) (sIf_f (isnT (k := .cl) (d := .int i) rfl rfl) (sIf_f (isiv rfl rfl) (sIf_t (isiv rfl rfl)
      (sRet_ok (eAnd_b (isiEv rfl rfl) fun _ => eAnd_b (eNot_b (isiEv rfl rfl)) fun _ => e)))))))) rfl
  | n + 1, .str x, _ => by
    show fnD 3 2 (B__law_same (F__law_same n)) [.str x, .str x] = _
    have e : op2 gEq (eVar 0) (eVar 1) [some (false, D.str x), some (false, D.str x), none] = .ok (.cl, .bl true) := op2_ok (k1 := .cl) (x := .str x) rfl (k2 := .cl) (y := .str x) rfl (by rw [gEq_s, beq_self_eq_true])
    exact fn_ok (ρ0 := [some (false, .str x), some (false, .str x), none]) rfl rfl (sSeq_r (sIf_f (isiv rfl rfl) (sIf_f (isiv rfl rfl) (sIf_f (isnT (k := .cl) (d := .str x) rfl rfl) (sIf_f (isiv rfl rfl) (sIf_f (isiv rfl rfl)
      (sRet_ok (eAnd_b (isiEv rfl rfl) fun _ => e)))))))) rfl
  | n + 1, .tup ds, .tup _ hl h => by
    show fnD 3 2 (B__law_same (F__law_same n)) [.tup ds, .tup ds] = _
    have nl : t2 gNe (op1 gLen (eVar 0)) (op1 gLen (eVar 1)) [some (false, D.tup ds), some (false, D.tup ds), none] = .ok false := t2_ok (k := .cl) (lenTp (k := .cl) rfl) (lenTp (k := .cl) rfl) (by rw [gNe_n, beq_self_eq_true]; rfl)
    obtain ⟨z', L⟩ := sm_loop (d := .tup ds) (ds := ds) (G := F__law_same n) (fun i x hx => gIx_t hx) (fun x hx => same_ok (h x hx)) (List.range' 0 ds.length) none fun k hk => by
      obtain ⟨i, hi, e⟩ := List.mem_range'.mp hk
      omega
    exact fn_ok (ρ0 := [some (false, .tup ds), some (false, .tup ds), none]) rfl rfl (sSeq_n (ρ1 := [some (false, .tup ds), some (false, .tup ds), none]) (sIf_f (isiv rfl rfl) (sIf_t (isiv rfl rfl) (skip_n (tOr_f (tNot_ok (isiv (d := .tup ds) (b := true) rfl rfl)) nl))))
      (sSeq_n (sFor_ok (iRng_ok (lenTp (k := .cl) rfl) (by omega)) L) rfl)) rfl
  | n + 1, .lst ds, .lst _ hl h => by
    show fnD 3 2 (B__law_same (F__law_same n)) [.lst ds, .lst ds] = _
    have l0 : op1 gLen (eVar 0) [some (false, D.lst ds), some (false, D.lst ds), none] = .ok (.cl, .int (ds.length : Nat)) := op1_ok (k1 := .cl) (x := .lst ds) rfl rfl
    have l1 : op1 gLen (eVar 1) [some (false, D.lst ds), some (false, D.lst ds), none] = .ok (.cl, .int (ds.length : Nat)) := op1_ok (k1 := .cl) (x := .lst ds) rfl rfl
    have nl : t2 gNe (op1 gLen (eVar 0)) (op1 gLen (eVar 1)) [some (false, D.lst ds), some (false, D.lst ds), none] = .ok false := t2_ok (k := .cl) l0 l1 (by rw [gNe_n, beq_self_eq_true]; rfl)
    obtain ⟨z', L⟩ := sm_loop (d := .lst ds) (ds := ds) (G := F__law_same n) (fun i x hx => gIx_l hx) (fun x hx => same_ok (h x hx)) (List.range' 0 ds.length) none fun k hk => by
      obtain ⟨i, hi, e⟩ := List.mem_range'.mp hk
      omega
    exact fn_ok (ρ0 := [some (false, .lst ds), some (false, .lst ds), none]) rfl rfl (sSeq_n (ρ1 := [some (false, .lst ds), some (false, .lst ds), none]) (sIf_t (isiv rfl rfl) (skip_n (tOr_f (tNot_ok (isiv (d := .lst ds) (b := true) rfl rfl)) nl)))
      (sSeq_n (sFor_ok (iRng_ok l1 (by omega)) L) rfl)) rfl
theorem Smp.mono : ∀ {n m : Nat} {d : D}, Smp n d → n ≤ m → Smp m d
  | 0, _, _, h, _ => nomatch h
  | n + 1, 0, _, _, hm => absurd hm (by omega)
  | n + 1, m + 1, .non, _, _ => .non
  | n + 1, m + 1, .int i, _, _ => .int i
  | n + 1, m + 1, .str x, _, _ => .str x
  | n + 1, m + 1, .tup ds, .tup _ hl h, hm => .tup ds hl fun d hd => (h d hd).mono (by omega)
  | n + 1, m + 1, .lst ds, .lst _ hl h, hm => .lst ds hl fun d hd => (h d hd).mono (by omega)
theorem Smp.toD : ∀ q : SQ, Smp (dep q + 1) (PL.toD q)
  | .one w => .tup _ (by show 1 < 1000; decide) fun d hd => by rw [List.mem_singleton.mp hd]; exact .str w
  | .nm w x => .tup _ (by show 2 < 1000; decide) fun d hd => by
    rcases List.mem_cons.mp hd with e | hd
    · rw [e]; exact .str w
    · rw [List.mem_singleton.mp hd]; exact .str x
  | .led w q => .tup _ (by show 2 < 1000; decide) fun d hd => by
    rcases List.mem_cons.mp hd with e | hd
    · rw [e]; exact .str w
    · rw [List.mem_singleton.mp hd]; exact Smp.toD q
  | .two w a b => .tup _ (by show 3 < 1000; decide) fun d hd => by
    show Smp (max (dep a) (dep b) + 1) d
    rcases List.mem_cons.mp hd with e | hd
    · rw [e]; exact .str w
    · rcases List.mem_cons.mp hd with e | hd
      · rw [e]; exact (Smp.toD a).mono (by omega)
      · rw [List.mem_singleton.mp hd]; exact (Smp.toD b).mono (by omega)
end PL
set_option Elab.async false
set_option linter.all false
set_option maxRecDepth 100000
set_option maxHeartbeats 4000000
/-! Oh81: set questions as they are drawn. -/
namespace PL
open PySem PySem.Spec L2

theorem xaCons_ok {f : XEF} {g : XAF} {ρ ρ1 ρ2 : Ro} {d : D} {ds : List D} (h : f ρ = .ok ρ1 d) (k : g ρ1 = .ok ρ2 ds) : xaCons f g ρ = .ok ρ2 (d :: ds) := by unfold xaCons; rw [h]; dsimp only; rw [k]
theorem xTup_ok {g : XAF} {ρ ρ' : Ro} {ds : List D} (h : g ρ = .ok ρ' ds) (hl : ds.length ≤ 16777216) : xTup g ρ = .ok ρ' (.tup ds) := by unfold xTup; rw [h]; exact if_pos hl
theorem dv_ok {ρ : Ro} {fa : EF} {k : Kd} {x y : Nat} (h1 : fa ρ = .ok (k, .int x)) (h3 : 0 < y ∧ y < 1073741824) : op2 gFdiv fa (eC (.int y)) ρ = .ok (.cl, .int ((x / y : Nat) : Int)) :=
  op2_ok h1 (k2 := .cl) (y := .int y) rfl (by rw [gFdiv_i (by omega)]; rfl)
theorem mdc_ok {ρ : Ro} {fa : EF} {k : Kd} {x y : Nat} (h1 : fa ρ = .ok (k, .int x)) (h3 : 0 < y) : op2 gMod fa (eC (.int y)) ρ = .ok (.cl, .int ((x % y : Nat) : Int)) := md_ok h1 (k2 := .cl) rfl h3
theorem pick_ok {ρ : Ro} {fs : AF} {fe : EF} {k : Kd} {ns : List (List Nat)} {i : Nat} (hs : disp (fun ds => (.fr, .lst ds)) fs ρ = .ok (.fr, .lst (ns.map D.str))) (he : fe ρ = .ok (k, .int i)) (h : i < ns.length) : op2 gIx (disp (fun ds => (.fr, .lst ds)) fs) fe ρ = .ok (.cl, .str ns[i]) :=
  op2_ok hs he (gIx_t0 (List.getElem?_eq_getElem h))
def PTHS : List (List Nat) := [[97, 112, 112], [120, 46, 111], [113], [120, 46, 99], [101, 118, 101, 110, 46, 99], [122, 122]]
def GLBS : List (List Nat) := [[42, 46, 111], [42, 42], [116, 47, 42], [42], [42, 42, 47, 97], [42, 46, 99]]
theorem pths_ok : PTHS.all (fun x => isPath x && decide (x.length ≤ 6)) = true := by decide +kernel
theorem glbs_ok : GLBS.all (fun x => isGlob x && decide (x.length ≤ 6)) = true := by decide +kernel
theorem plain_sz : PLAIN.all (fun x => decide (x.length ≤ 7) && decide (cnt x = 0) && decide (0 < x.length)) = true := by decide
theorem led_sz : LED.all (fun x => decide (x.length ≤ 6) && decide (cnt x = 0)) = true := by decide
theorem two_sz : TWO.all (fun x => decide (x.length ≤ 7) && decide (cnt x = 0)) = true := by decide
theorem free_cnt {w : List Nat} (h : free w = true) : cnt w = 0 := by
  unfold cnt
  rw [List.countP_eq_zero]
  intro c hc
  have := List.all_eq_true.mp h c hc
  simpa using this
def Lq : Nat → Nat
  | 0 => 11
  | n + 1 => 2 * Lq n + 11
def Cq : Nat → Nat
  | 0 => 1
  | n + 1 => 2 * Cq n + 4
theorem Lq_ge : ∀ n, 11 ≤ Lq n
  | 0 => Nat.le_refl _
  | n + 1 => by show 11 ≤ 2 * Lq n + 11; omega
theorem Cq_ge : ∀ n, 1 ≤ Cq n
  | 0 => Nat.le_refl _
  | n + 1 => by show 1 ≤ 2 * Cq n + 4; omega
/-- a set question that is drawn -/
structure Dq (n : Nat) (q : SQ) : Prop where
  wf : WF q
  dp : dep q ≤ n + 1
  len : (txt q).length ≤ Lq n
  cn : cnt (txt q) ≤ Cq n
theorem Dq.one {n : Nat} {w : List Nat} (h : w ∈ PLAIN) : Dq n (.one w) := by
  have z := List.all_eq_true.mp plain_sz w h
  rw [Bool.and_eq_true, Bool.and_eq_true, decide_eq_true_eq, decide_eq_true_eq] at z
  exact ⟨h, by show 1 ≤ n + 1; omega, Nat.le_trans (by show w.length ≤ 11; omega) (Lq_ge n), by show cnt w ≤ _; rw [z.1.2]; omega⟩
theorem Dq.nm {n : Nat} {w x : List Nat} (h : w ∈ NAMED) (g : good w x = true) (hl : x.length ≤ 6) : Dq n (.nm w x) := by
  have hw : w.length = 4 := by
    have : NAMED.all (fun w => decide (w.length = 4)) = true := by decide
    exact of_decide_eq_true (List.all_eq_true.mp this w h)
  refine ⟨⟨h, g⟩, by show 1 ≤ n + 1; omega, Nat.le_trans ?_ (Lq_ge n), Nat.le_trans ?_ (Cq_ge n)⟩
  · show (w ++ 32 :: x).length ≤ 11
    rw [List.length_append, List.length_cons]; omega
  · show cnt (w ++ 32 :: x) ≤ 1
    rw [cnt_app, cnt_sep x rfl, free_cnt (word_ok (mN h)).1, free_cnt (good_free g)]
    omega
theorem Dq.led {n : Nat} {w : List Nat} {q : SQ} (h : w ∈ LED) (d : Dq n q) : Dq (n + 1) (.led w q) := by
  have z := List.all_eq_true.mp led_sz w h
  rw [Bool.and_eq_true, decide_eq_true_eq, decide_eq_true_eq] at z
  have l := d.len
  have c := d.cn
  refine ⟨⟨h, d.wf⟩, Nat.succ_le_succ d.dp, ?_, ?_⟩
  · show (w ++ 32 :: txt q).length ≤ 2 * Lq n + 11
    rw [List.length_append, List.length_cons]; omega
  · show cnt (w ++ 32 :: txt q) ≤ 2 * Cq n + 4
    rw [cnt_app, cnt_sep _ rfl, z.2]; omega
theorem Dq.two {n : Nat} {w : List Nat} {a b : SQ} (h : w ∈ TWO) (d : Dq n a) (d' : Dq n b) : Dq (n + 1) (.two w a b) := by
  have z := List.all_eq_true.mp two_sz w h
  rw [Bool.and_eq_true, decide_eq_true_eq, decide_eq_true_eq] at z
  have l := d.len
  have c := d.cn
  have l' := d'.len
  have c' := d'.cn
  have p := d.dp
  have p' := d'.dp
  refine ⟨⟨h, d.wf, d'.wf⟩, by show max (dep a) (dep b) + 1 ≤ n + 1 + 1; omega, ?_, ?_⟩
  · rw [txt_len2]
    show _ ≤ 2 * Lq n + 11
    omega
  · show cnt (40 :: (txt a ++ 32 :: (w ++ 32 :: (txt b ++ [41])))) ≤ 2 * Cq n + 4
    rw [cnt_sep _ rfl, cnt_app, cnt_sep _ rfl, cnt_app, cnt_sep _ rfl, cnt_app, z.2, show cnt [41] = 1 from rfl]
    omega
abbrev Dx (ns : List Nat) (n : Nat) (x y : Sl) : Ro := [some (true, numD ns), some (false, .int (n : Nat)), x, y]
def drawF : XF := xIf (t2 gGt (op1 gLen (eVar 0)) (eC (.int 0))) (xSeq (xSet 2 (xPop 0)) <| xSkip) (xSkip)
theorem draw_ok {ns : List Nat} {n : Nat} : drawF (Dx ns n (some (false, .int 0)) none) = .nx (Dx ns.tail n (some (false, .int (ns.headD 0 : Nat))) none) := by
  cases ns with
  | nil => rfl
  | cons v r =>
    have t : t2 gGt (op1 gLen (eVar 0)) (eC (.int 0)) (Dx (v :: r) n (some (false, .int 0)) none) = .ok true := by
      refine t2_ok (k := .cl) (op1_ok (k1 := .pk) (x := numD (v :: r)) rfl rfl) (k2 := .cl) (y := .int ((0 : Nat) : Int)) rfl ?_
      refine (gGt_n _ 0).trans ?_
      rw [decide_eq_true (by rw [List.length_map, List.length_map, List.length_cons]; omega)]
    exact xIf_t t (xSeq_n (xSet_ok (ρ' := Dx r n (some (false, .int 0)) none) (d := .int (v : Nat)) rfl) rfl)
def Drn (k : Nat) : Prop := ∀ (n : Nat) (ns : List Nat), n < k → ∃ ns' q, F__law_set_drawn k (numD ns) [.int (n : Nat)] = .ok (numD ns') (toD q) ∧ Dq n q
theorem drn_all : ∀ k : Nat, Drn k
  | 0 => fun n _ h => absurd h (Nat.not_lt_zero _)
  | k + 1 => by
    have ih := drn_all k
    intro n ns hn
    let v := ns.headD 0
    let ρ : Ro := Dx ns.tail n (some (false, .int (v : Nat))) none
    have ev : eVar 2 ρ = .ok (.cl, .int (v : Nat)) := rfl
    have start : ∀ (X : XF) (s : SX), X ρ = s → (xSeq (xSet 2 (xLift (eC (.int 0)))) <| xSeq drawF X) (Dx ns n none none) = s := fun X s h =>
      xSeq_n (ρ1 := Dx ns n (some (false, .int 0)) none) rfl (xSeq_n draw_ok h)
    have t1 : tOrF (t2 gEq (eVar 1) (eC (.int 0))) (t2 gEq (op2 gMod (eVar 2) (eC (.int 5))) (eC (.int 0))) ρ = .ok (n == 0 || v % 5 == 0) :=
      tOr_ok (t2_ok (k := .cl) (k1 := .cl) (x := .int (n : Nat)) rfl (k2 := .cl) (y := .int ((0 : Nat) : Int)) rfl (gEq_n n 0)) (t2_ok (k := .cl) (mdc_ok (y := 5) ev (by decide)) (k2 := .cl) (y := .int ((0 : Nat) : Int)) rfl (gEq_n _ 0))
    have fin : ∀ (ns' : List Nat) (q : SQ) (r : SX), Dq n q → r = .rt (Dx ns' n (some (false, .int (v : Nat))) none) (toD q) → B__law_set_drawn (F__law_set_drawn k) (Dx ns n none none) = r → ∃ ns' q, F__law_set_drawn (k + 1) (numD ns) [.int (n : Nat)] = .ok (numD ns') (toD q) ∧ Dq n q := fun ns' q r d e h =>
      ⟨ns', q, fnX_ok (ρ0 := Dx ns n none none) rfl rfl (h.trans e) rfl, d⟩
    have fin2 : ∀ (q : SQ) (r : SX) (y : Sl), Dq n q → r = .rt (Dx ns.tail n (some (false, .int (v : Nat))) y) (toD q) → B__law_set_drawn (F__law_set_drawn k) (Dx ns n none none) = r → ∃ ns' q, F__law_set_drawn (k + 1) (numD ns) [.int (n : Nat)] = .ok (numD ns') (toD q) ∧ Dq n q := fun q r y d e h =>
      ⟨ns.tail, q, fnX_ok (ρ0 := Dx ns n none none) rfl rfl (h.trans e) rfl, d⟩
    by_cases c : (n == 0 || v % 5 == 0) = true
    · rw [c] at t1
      let kd := v / 5 % 9
      let ρk : Ro := Dx ns.tail n (some (false, .int (v : Nat))) (some (false, .int (kd : Nat)))
      have k1 : xSet 3 (xLift (op2 gMod (op2 gFdiv (eVar 2) (eC (.int 5))) (eC (.int 9)))) ρ = .nx ρk := xSet_ok (xLift_ok (k := .cl) (mdc_ok (y := 9) (dv_ok (y := 5) ev (by decide)) (by decide)) rfl)
      have ek : eVar 3 ρk = .ok (.cl, .int (kd : Nat)) := rfl
      have ev2 : eVar 2 ρk = .ok (.cl, .int (v : Nat)) := rfl
      have lt : t2 gLt (eVar 3) (eC (.int 7)) ρk = .ok (decide (kd < 7)) := t2_ok (k := .cl) ek (k2 := .cl) (y := .int ((7 : Nat) : Int)) rfl (gLt_n _ 7)
      have i6 : op2 gMod (op2 gFdiv (eVar 2) (eC (.int 45))) (eC (.int 6)) ρk = .ok (.cl, .int ((v / 45 % 6 : Nat) : Int)) := mdc_ok (y := 6) (dv_ok (y := 45) ev2 (by decide)) (by decide)
      have h6 : v / 45 % 6 < 6 := Nat.mod_lt _ (by decide)
      by_cases c7 : kd < 7
      · rw [decide_eq_true c7] at lt
        have hk : kd < PLAIN.length := c7
        refine fin2 (.one PLAIN[kd]) _ (some (false, .int (kd : Nat))) (Dq.one (List.getElem_mem hk)) ?_ (start _ _ (xSeq_r (xIf_t t1 (xSeq_n k1 (xSeq_r (xIf_t lt (xSeq_r (xRet_ok (xLift_ok (k := .cl) (disp_ok (es := [(.cl, .str PLAIN[kd])]) (aCons_ok (pick_ok (ns := PLAIN) rfl ek hk) rfl) rfl (by show 1 ≤ 16777216; decide) rfl) rfl)))))))))
        rfl
      · rw [decide_eq_false c7] at lt
        have e7 : t2 gEq (eVar 3) (eC (.int 7)) ρk = .ok (kd == 7) := t2_ok (k := .cl) ek (k2 := .cl) (y := .int ((7 : Nat) : Int)) rfl (gEq_n _ 7)
        by_cases c8 : kd = 7
        · rw [show (kd == 7) = true from beq_iff_eq.mpr c8] at e7
          have hp := List.all_eq_true.mp pths_ok PTHS[v / 45 % 6] (List.getElem_mem h6)
          rw [Bool.and_eq_true, decide_eq_true_eq] at hp
          refine fin2 (.nm PATH PTHS[v / 45 % 6]) _ (some (false, .int (kd : Nat))) (Dq.nm (by decide) hp.1 hp.2) ?_ (start _ _ (xSeq_r (xIf_t t1 (xSeq_n k1 (xSeq_n (xIf_f (g := xSkip) lt rfl) (xSeq_r (xIf_t e7 (xSeq_r (xRet_ok (xLift_ok (k := .cl) (disp_ok (es := [(.cl, .str PATH), (.cl, .str PTHS[v / 45 % 6])]) (aCons_ok rfl (aCons_ok (pick_ok (ns := PTHS) rfl i6 h6) rfl)) rfl (by show 2 ≤ 16777216; decide) rfl) rfl))))))))))
          rfl
        · rw [show (kd == 7) = false from beq_false_of_ne c8] at e7
          have hp := List.all_eq_true.mp glbs_ok GLBS[v / 45 % 6] (List.getElem_mem h6)
          rw [Bool.and_eq_true, decide_eq_true_eq] at hp
          refine fin2 (.nm FITS GLBS[v / 45 % 6]) _ (some (false, .int (kd : Nat))) (Dq.nm (by decide) hp.1 hp.2) ?_ (start _ _ (xSeq_r (xIf_t t1 (xSeq_n k1 (xSeq_n (xIf_f (g := xSkip) lt rfl) (xSeq_n (xIf_f (g := xSkip) e7 rfl) (xSeq_r (xRet_ok (xLift_ok (k := .cl) (disp_ok (es := [(.cl, .str FITS), (.cl, .str GLBS[v / 45 % 6])]) (aCons_ok rfl (aCons_ok (pick_ok (ns := GLBS) rfl i6 h6) rfl)) rfl (by show 2 ≤ 16777216; decide) rfl) rfl)))))))))
          rfl
    · have c' : (n == 0 || v % 5 == 0) = false := by simpa using c
      rw [c'] at t1
      have hn0 : n ≠ 0 := fun z => by rw [z] at c'; cases c'
      obtain ⟨m, rfl⟩ : ∃ m, n = m + 1 := ⟨n - 1, by omega⟩
      have t3 : t2 gLt (op2 gMod (eVar 2) (eC (.int 5))) (eC (.int 3)) ρ = .ok (decide (v % 5 < 3)) := t2_ok (k := .cl) (mdc_ok (y := 5) ev (by decide)) (k2 := .cl) (y := .int ((3 : Nat) : Int)) rfl (gLt_n _ 3)
      have call : ∀ ms : List Nat, ∃ ms' q, xApp 0 1 (fun _ => true) (F__law_set_drawn k) (aCons (op2 gSub (eVar 1) (eC (.int 1))) (aNil)) (Dx ms (m + 1) (some (false, .int (v : Nat))) none) = .ok (Dx ms' (m + 1) (some (false, .int (v : Nat))) none) (toD q) ∧ Dq m q := fun ms => by
        obtain ⟨ms', q, e, d⟩ := ih m ms (by omega)
        have hs : op2 gSub (eVar 1) (eC (.int 1)) (Dx ms (m + 1) (some (false, .int (v : Nat))) none) = .ok (.cl, .int (m : Nat)) := by
          refine op2_ok (k1 := .cl) (x := .int ((m + 1 : Nat) : Int)) rfl (k2 := .cl) (y := .int 1) rfl ?_
          rw [gSub_i, show ((m + 1 : Nat) : Int) - 1 = (m : Int) by omega]
        exact ⟨ms', q, xApp_ok (es := [(.cl, .int (m : Nat))]) rfl rfl (aCons_ok hs rfl) rfl rfl rfl e, d⟩
      obtain ⟨n1, q1, e1, d1⟩ := call ns.tail
      by_cases c3 : v % 5 < 3
      · rw [decide_eq_true c3] at t3
        have h4 : v / 5 % 4 < 4 := Nat.mod_lt _ (by decide)
        have i4 : op2 gMod (op2 gFdiv (eVar 2) (eC (.int 5))) (eC (.int 4)) ρ = .ok (.cl, .int ((v / 5 % 4 : Nat) : Int)) := mdc_ok (y := 4) (dv_ok (y := 5) ev (by decide)) (by decide)
        refine fin n1 (.led LED[v / 5 % 4] q1) _ (Dq.led (List.getElem_mem h4) d1) ?_ (start _ _ (xSeq_n (xIf_f (g := xSkip) t1 rfl) (xSeq_r (xIf_t t3 (xSeq_r (xRet_ok (xTup_ok (ds := [.str LED[v / 5 % 4], toD q1]) (xaCons_ok (xLift_ok (k := .cl) (pick_ok (ns := LED) rfl i4 h4) rfl) (xaCons_ok e1 rfl)) (by show 2 ≤ 16777216; decide))))))))
        rfl
      · rw [decide_eq_false c3] at t3
        have h4 : v / 5 % 3 < 3 := Nat.mod_lt _ (by decide)
        have i4 : op2 gMod (op2 gFdiv (eVar 2) (eC (.int 5))) (eC (.int 3)) ρ = .ok (.cl, .int ((v / 5 % 3 : Nat) : Int)) := mdc_ok (y := 3) (dv_ok (y := 5) ev (by decide)) (by decide)
        obtain ⟨n2, q2, e2, d2⟩ := call n1
        refine fin n2 (.two TWO[v / 5 % 3] q1 q2) _ (Dq.two (List.getElem_mem h4) d1 d2) ?_ (start _ _ (xSeq_n (xIf_f (g := xSkip) t1 rfl) (xSeq_n (xIf_f (g := xSkip) t3 rfl) (xSeq_r (xRet_ok (xTup_ok (ds := [.str TWO[v / 5 % 3], toD q1, toD q2]) (xaCons_ok (xLift_ok (k := .cl) (pick_ok (ns := TWO) rfl i4 h4) rfl) (xaCons_ok e1 (xaCons_ok e2 rfl))) (by show 3 ≤ 16777216; decide)))))))
        rfl
end PL
set_option Elab.async false
set_option linter.all false
set_option maxRecDepth 100000
set_option maxHeartbeats 4000000
/-! Oi81: questions as they are drawn. -/
namespace PL
open PySem PySem.Spec L2

structure Asked (d : D) (t : List Nat) : Prop where
  wr : F_write_question [d] = .ok (.cl, .str t)
  lt : F__law_question_text [d] = .ok (.cl, .str t)
  rd : Qs t = some d
  len : t.length ≤ 200
  pos : 0 < t.length
  cn : cnt t ≤ 40
  sm : Smp 10 d
theorem wds_cons {p r : List Nat} (h : 32 ∉ p) : wds (p ++ 32 :: r) = p :: wds r := (TL.spl_part1 (s := 32) (S := []) (acc := []) h).trans rfl
theorem wds_join {ps : List (List Nat)} (hne : ps ≠ []) (h : ∀ p ∈ ps, 32 ∉ p) : wds (TL.joinL [32] ps) = ps := TL.spl_join hne h
theorem Asked.set {q : SQ} (h : Dq 3 q) : Asked (.tup [.str SET, toD q]) (SETS ++ txt q) := by
  have l := h.len
  have c := h.cn
  have p := h.dp
  have l : (txt q).length ≤ 165 := l
  have c : cnt (txt q) ≤ 36 := c
  have e0 : op2 gIx (eVar 0) (eC (.int (0 : Nat))) [some (false, .tup [.str SET, toD q]), none] = .ok (.cl, .str SET) := ixTp (k := .cl) rfl rfl
  have e1 : op2 gIx (eVar 0) (eC (.int (1 : Nat))) [some (false, .tup [.str SET, toD q]), none] = .ok (.cl, toD q) := ixTp (k := .cl) rfl rfl
  have t0 : t2 gEq (op2 gIx (eVar 0) (eC (.int (0 : Nat)))) (eC (.str [115, 101, 116])) [some (false, .tup [.str SET, toD q]), none] = .ok true := t2_ok (k := .cl) e0 (k2 := .cl) (y := .str SET) rfl rfl
  have ws := write_set_ok q 200 h.wf (by omega) (by omega)
  have lt := set_text_ok q 200 (by omega) (by omega)
  have lenS : (SETS ++ txt q).length = 4 + (txt q).length := by rw [List.length_append]; rfl
  have cnS : cnt (SETS ++ txt q) = 1 + cnt (txt q) := by rw [cnt_app]; rfl
  refine ⟨?_, ?_, ?_, by omega, by omega, by omega, ?_⟩
  · show fnD 2 1 B_write_question [.tup [.str SET, toD q]] = _
    have a1 : op2 gAdd (eC (.str [115, 101, 116])) (eC (.str [32])) [some (false, .tup [.str SET, toD q]), none] = .ok (.cl, .str SETS) := rfl
    exact fn_ok (ρ0 := [some (false, .tup [.str SET, toD q]), none]) rfl rfl (sSeq_r (sIf_t t0 (sRet_ok (addS a1 (callT e1 ws) (by show 4 + (txt q).length ≤ 16777216; omega))))) rfl
  · show fnD 2 1 B__law_question_text [.tup [.str SET, toD q]] = _
    exact fn_ok (ρ0 := [some (false, .tup [.str SET, toD q]), none]) rfl rfl (sSeq_r (sIf_t t0 (sRet_ok (addS (k := .cl) (x := SETS) rfl (callT e1 lt) (by show 4 + (txt q).length ≤ 16777216; omega))))) rfl
  · unfold Qs
    rw [if_pos (by omega)]
    have e : wds (SETS ++ txt q) = SET :: wds (txt q) := wds_cons (p := SET) (r := txt q) (by decide)
    rw [e]
    show inW SET (wds (txt q)) (SETS ++ txt q) = _
    unfold inW
    rw [if_pos rfl]
    have : (SETS ++ txt q).drop 4 = txt q := rfl
    rw [this, (RQs_iff (n := 110) (t := txt q) (q := q) (by omega)).mpr ⟨h.wf, rfl⟩]
    rfl
  · refine .tup _ (by show 2 < 1000; decide) fun d hd => ?_
    rcases List.mem_cons.mp hd with e | hd
    · rw [e]; exact .str _
    · rw [List.mem_singleton.mp hd]; exact (Smp.toD q).mono (by omega)
/-! the other questions -/
def strOf : D → List Nat
  | .str x => x
  | .int i => TL.numL i.toNat
  | _ => []
def tailJ : EF := (mth1 gJoin (eC (.str [32])) (lcF (iVal (eVar 0)) [1] (gNm 1) (tYesF) (op1 gStrA (eVar 1))))
theorem tailJ_ok {ds : List D} (h : ∀ d ∈ ds, gStrA d = .ok (.cl, .str (strOf d))) (hl : ds.length ≤ 1000) (hj : joinSize [32] (ds.map strOf) ≤ 16777216) : tailJ [some (false, .tup ds), none] = .ok (.cl, .str (TL.joinL [32] (ds.map strOf))) := by
  have L : lcF (iVal (eVar 0)) [1] (gNm 1) (tYesF) (op1 gStrA (eVar 1)) [some (false, .tup ds), none] = .ok (.fr, .lst ((ds.map strOf).map D.str)) := by
    refine lcF_ok (p := (false, ds)) rfl (by show ds.length ≤ _; omega) ?_
    rw [List.map_map]
    refine lcA_all (g := fun d => .str (strOf d)) fun d hd => ?_
    exact turn_ok (e := (.cl, .str (strOf d))) (ρ1 := [some (false, .tup ds), some (false, d)]) rfl rfl (op1_ok (k1 := .cl) (x := d) rfl (h d hd)) rfl
  exact mth1_ok (k1 := .cl) (a := [32]) rfl L (gJoin_l hj)
def NMS : List (List Nat) := [[97, 112, 112], [120, 46, 111], [113], [112], [97, 108, 108], [120, 46, 99], [117, 47, 98], [119], [116, 47, 97], [122, 122]]
theorem nms_ok : NMS.all (fun x => isPath x && decide (x.length ≤ 3)) = true := by decide +kernel
theorem numV : ∀ n : Fin 13, (valN (TL.numL n.val) = n.val ∧ (TL.numL n.val).length ≤ 2 ∧ free (TL.numL n.val) = true) := by decide +kernel
theorem num_in {n : Nat} (h : n < 13) : TL.numL n ∈ numW := List.mem_map.mpr ⟨n, List.mem_range.mpr h, rfl⟩
theorem cw_ok : (WAY :: tup_COUNTED).all (fun w => free w && (decide (w.length ≤ 5) && (decide (0 < w.length) && w != SET))) = true := by decide
theorem tx_of {ds : List D} {w : List Nat} {r : List D} (hd : ds = .str w :: r) (hw : w ≠ SET) (h : ∀ d ∈ ds, gStrA d = .ok (.cl, .str (strOf d))) (hl : ds.length ≤ 1000) (hj : joinSize [32] (ds.map strOf) ≤ 16777216) : F_write_question [.tup ds] = .ok (.cl, .str (TL.joinL [32] (ds.map strOf))) ∧ F__law_question_text [.tup ds] = .ok (.cl, .str (TL.joinL [32] (ds.map strOf))) := by
  have e0 : op2 gIx (eVar 0) (eC (.int (0 : Nat))) [some (false, .tup ds), none] = .ok (.cl, .str w) := ixTp (k := .cl) rfl (by rw [hd]; rfl)
  have t0 : t2 gEq (op2 gIx (eVar 0) (eC (.int (0 : Nat)))) (eC (.str [115, 101, 116])) [some (false, .tup ds), none] = .ok false := by
    refine t2_ok (k := .cl) e0 (k2 := .cl) (y := .str SET) rfl ?_
    rw [gEq_s, beq_false_of_ne hw]
  exact ⟨fn_ok (ρ0 := [some (false, .tup ds), none]) rfl rfl (sSeq_n (skip_n t0) (sRet_ok (tailJ_ok h hl hj))) rfl, fn_ok (ρ0 := [some (false, .tup ds), none]) rfl rfl (sSeq_n (skip_n t0) (sRet_ok (tailJ_ok h hl hj))) rfl⟩
theorem join3 (a b c : List Nat) : TL.joinL [32] [a, b, c] = a ++ 32 :: (b ++ 32 :: c) := rfl
theorem join4 (a b c d : List Nat) : TL.joinL [32] [a, b, c, d] = a ++ 32 :: (b ++ 32 :: (c ++ 32 :: d)) := rfl
theorem free_mem {w : List Nat} {ns : List (List Nat)} {f : List Nat → Bool} (h : ns.all f = true) (hw : w ∈ ns) : f w = true := List.all_eq_true.mp h w hw
theorem Asked.way {a b : List Nat} (ha : a ∈ NMS) (hb : b ∈ NMS) : Asked (.tup [.str WAY, .str a, .str b]) (TL.joinL [32] [WAY, a, b]) := by
  have pa := free_mem nms_ok ha
  have pb := free_mem nms_ok hb
  rw [Bool.and_eq_true, decide_eq_true_eq] at pa pb
  have fa := isPath_free pa.1
  have fb := isPath_free pb.1
  have hl : (TL.joinL [32] [WAY, a, b]).length = 3 + (a.length + (b.length + 1) + 1) := by
    rw [join3, List.length_append, List.length_cons, List.length_append, List.length_cons]; rfl
  obtain ⟨w1, w2⟩ := tx_of (ds := [.str WAY, .str a, .str b]) (w := WAY) rfl (by decide) (fun d hd => by
    rcases List.mem_cons.mp hd with e | hd
    · rw [e]; rfl
    · rcases List.mem_cons.mp hd with e | hd
      · rw [e]; rfl
      · rw [List.mem_singleton.mp hd]; rfl) (by show 3 ≤ 1000; decide) (by show 3 + (a.length + (b.length + 0)) + 3 * 1 ≤ 16777216; omega)
  refine ⟨w1, w2, ?_, by omega, by omega, ?_, ?_⟩
  · unfold Qs
    rw [if_pos (by omega), wds_join (List.cons_ne_nil _ _) (fun p hp => ?_)]
    · show (if WAY = SET then _ else other [WAY, a, b]) = _
      rw [if_neg (by decide)]
      exact if_pos ⟨rfl, pa.1, pb.1⟩
    · rcases List.mem_cons.mp hp with e | hp
      · rw [e]; decide
      · rcases List.mem_cons.mp hp with e | hp
        · rw [e]; exact free32 fa
        · rw [List.mem_singleton.mp hp]; exact free32 fb
  · rw [join3, cnt_app, cnt_sep _ rfl, cnt_app, cnt_sep _ rfl, free_cnt fa, free_cnt fb]
    decide
  · refine .tup _ (by show 3 < 1000; decide) fun d hd => ?_
    rcases List.mem_cons.mp hd with e | hd
    · rw [e]; exact .str _
    · rcases List.mem_cons.mp hd with e | hd
      · rw [e]; exact .str _
      · rw [List.mem_singleton.mp hd]; exact .str _
theorem Asked.cnt {w a b : List Nat} {n : Nat} (hw : w ∈ tup_COUNTED) (ha : a ∈ NMS) (hb : b ∈ NMS) (hn : n < 13) : Asked (.tup [.str w, .str a, .str b, .int (n : Nat)]) (TL.joinL [32] [w, a, b, TL.numL n]) := by
  have pa := free_mem nms_ok ha
  have pb := free_mem nms_ok hb
  have pw := free_mem cw_ok (List.mem_cons_of_mem WAY hw)
  rw [Bool.and_eq_true, decide_eq_true_eq] at pa pb
  rw [Bool.and_eq_true, Bool.and_eq_true, Bool.and_eq_true, decide_eq_true_eq, decide_eq_true_eq, bne_iff_ne] at pw
  have fa := isPath_free pa.1
  have fb := isPath_free pb.1
  obtain ⟨nv, nl, nf⟩ := numV ⟨n, hn⟩
  have nv : valN (TL.numL n) = n := nv
  have nl : (TL.numL n).length ≤ 2 := nl
  have nf : free (TL.numL n) = true := nf
  have hl : (TL.joinL [32] [w, a, b, TL.numL n]).length = w.length + (a.length + (b.length + ((TL.numL n).length + 1) + 1) + 1) := by
    rw [join4, List.length_append, List.length_cons, List.length_append, List.length_cons, List.length_append, List.length_cons]
  have gn : gStr (.int (n : Nat)) = .ok (.cl, .str (TL.numL n)) := gStr_ok (by omega)
  have gn2 : gStrA (.int (n : Nat)) = .ok (.cl, .str (TL.numL n)) := gn
  obtain ⟨w1, w2⟩ := tx_of (ds := [.str w, .str a, .str b, .int (n : Nat)]) (w := w) rfl pw.2.2.2 (fun d hd => by
    rcases List.mem_cons.mp hd with e | hd
    · rw [e]; rfl
    · rcases List.mem_cons.mp hd with e | hd
      · rw [e]; rfl
      · rcases List.mem_cons.mp hd with e | hd
        · rw [e]; rfl
        · rw [List.mem_singleton.mp hd]; exact gn2) (by show 4 ≤ 1000; decide) (by show w.length + (a.length + (b.length + ((TL.numL n).length + 0))) + 4 * 1 ≤ 16777216; omega)
  refine ⟨w1, w2, ?_, by omega, by omega, ?_, ?_⟩
  · unfold Qs
    rw [if_pos (by omega), wds_join (List.cons_ne_nil _ _) (fun p hp => ?_)]
    · show (if w = SET then _ else other [w, a, b, TL.numL n]) = _
      rw [if_neg pw.2.2.2]
      refine (if_pos ⟨hw, pa.1, pb.1, num_in hn⟩).trans ?_
      rw [nv]
    · rcases List.mem_cons.mp hp with e | hp
      · rw [e]; exact free32 pw.1
      · rcases List.mem_cons.mp hp with e | hp
        · rw [e]; exact free32 fa
        · rcases List.mem_cons.mp hp with e | hp
          · rw [e]; exact free32 fb
          · rw [List.mem_singleton.mp hp]; exact free32 nf
  · rw [join4, cnt_app, cnt_sep _ rfl, cnt_app, cnt_sep _ rfl, cnt_app, cnt_sep _ rfl, free_cnt fa, free_cnt fb, free_cnt nf, free_cnt pw.1]
    decide
  · refine .tup _ (by show 4 < 1000; decide) fun d hd => ?_
    rcases List.mem_cons.mp hd with e | hd
    · rw [e]; exact .str _
    · rcases List.mem_cons.mp hd with e | hd
      · rw [e]; exact .str _
      · rcases List.mem_cons.mp hd with e | hd
        · rw [e]; exact .str _
        · rw [List.mem_singleton.mp hd]; exact .int _
/-! drawn -/
abbrev Qx (ns : List Nat) (v p f s : Sl) : Ro := [some (true, numD ns), v, p, f, s]
def drawQ : XF := xIf (t2 gGt (op1 gLen (eVar 0)) (eC (.int 0))) (xSeq (xSet 1 (xPop 0)) <| xSkip) (xSkip)
theorem drawQ_ok {ns : List Nat} : drawQ (Qx ns (some (false, .int 0)) none none none) = .nx (Qx ns.tail (some (false, .int (ns.headD 0 : Nat))) none none none) := by
  cases ns with
  | nil => rfl
  | cons v r =>
    have t : t2 gGt (op1 gLen (eVar 0)) (eC (.int 0)) (Qx (v :: r) (some (false, .int 0)) none none none) = .ok true := by
      refine t2_ok (k := .cl) (op1_ok (k1 := .pk) (x := numD (v :: r)) rfl rfl) (k2 := .cl) (y := .int ((0 : Nat) : Int)) rfl ?_
      refine (gGt_n _ 0).trans ?_
      rw [decide_eq_true (by rw [List.length_map, List.length_map, List.length_cons]; omega)]
    exact xIf_t t (xSeq_n (xSet_ok (ρ' := Qx r (some (false, .int 0)) none none none) (d := .int (v : Nat)) rfl) rfl)
theorem question_ok (ns : List Nat) : ∃ ns' d t, F__law_question (numD ns) [] = .ok (numD ns') d ∧ Asked d t := by
  let v := ns.headD 0
  let V : Sl := some (false, .int (v : Nat))
  let P : Sl := some (false, .lst (NMS.map D.str))
  let ρ : Ro := Qx ns.tail V P none none
  have ev : ∀ a b : Sl, eVar 1 (Qx ns.tail V P a b) = .ok (.cl, .int (v : Nat)) := fun _ _ => rfl
  have start : ∀ (X : XF) (s : SX), X ρ = s → (xSeq (xSet 1 (xLift (eC (.int 0)))) <| xSeq drawQ (xSeq (xSet 2 (xLift (disp (fun ds => (.fr, .lst ds)) (aCons (eC (.str [97, 112, 112])) (aCons (eC (.str [120, 46, 111])) (aCons (eC (.str [113])) (aCons (eC (.str [112])) (aCons (eC (.str [97, 108, 108])) (aCons (eC (.str [120, 46, 99])) (aCons (eC (.str [117, 47, 98])) (aCons (eC (.str [119])) (aCons (eC (.str [116, 47, 97])) (aCons (eC (.str [122, 122])) (aNil)))))))))))))) X)) (Qx ns none none none none) = s := fun X s h =>
    xSeq_n (ρ1 := Qx ns (some (false, .int 0)) none none none) rfl (xSeq_n drawQ_ok (xSeq_n (ρ1 := ρ) rfl h))
  have fin : ∀ (ns' : List Nat) (d : D) (t : List Nat) (r : SX) (a b : Sl), Asked d t → r = .rt (Qx ns' V P a b) d → B__law_question (Qx ns none none none none) = r → ∃ ns' d t, F__law_question (numD ns) [] = .ok (numD ns') d ∧ Asked d t := fun ns' d t r a b A e h =>
    ⟨ns', d, t, fnX_ok (ρ0 := Qx ns none none none none) rfl rfl (h.trans e) rfl, A⟩
  have t0 : t2 gEq (op2 gMod (eVar 1) (eC (.int 4))) (eC (.int 0)) ρ = .ok (v % 4 == 0) := t2_ok (k := .cl) (mdc_ok (y := 4) (ev none none) (by decide)) (k2 := .cl) (y := .int ((0 : Nat) : Int)) rfl (gEq_n _ 0)
  by_cases c0 : v % 4 = 0
  · rw [show (v % 4 == 0) = true from beq_iff_eq.mpr c0] at t0
    obtain ⟨n1, q, e, dq⟩ := drn_all 6 3 ns.tail (by decide)
    have ap : xApp 0 1 (fun _ => true) (F__law_set_drawn 6) (aCons (eC (.int 3)) (aNil)) ρ = .ok (Qx n1 V P none none) (toD q) := xApp_ok (es := [(.cl, .int ((3 : Nat) : Int))]) rfl rfl rfl rfl rfl rfl e
    refine fin n1 (.tup [.str SET, toD q]) _ _ none none (Asked.set dq) ?_ (start _ _ (xSeq_r (xIf_t t0 (xSeq_r (xRet_ok (xTup_ok (ds := [.str SET, toD q]) (xaCons_ok (ρ1 := ρ) rfl (xaCons_ok ap rfl)) (by show 2 ≤ 16777216; decide)))))))
    rfl
  · rw [show (v % 4 == 0) = false from beq_false_of_ne c0] at t0
    have h1 : v / 4 % 10 < 10 := Nat.mod_lt _ (by decide)
    have h2 : v / 40 % 10 < 10 := Nat.mod_lt _ (by decide)
    let A : Sl := some (false, .str NMS[v / 4 % 10])
    let B : Sl := some (false, .str NMS[v / 40 % 10])
    have s1 : xSet 3 (xLift (op2 gIx (eVar 2) (op2 gMod (op2 gFdiv (eVar 1) (eC (.int 4))) (eC (.int 10))))) ρ = .nx (Qx ns.tail V P A none) :=
      xSet_ok (xLift_ok (k := .cl) (op2_ok (k1 := .cl) (x := .lst (NMS.map D.str)) rfl (mdc_ok (y := 10) (dv_ok (y := 4) (ev none none) (by decide)) (by decide)) (gIx_t0 (List.getElem?_eq_getElem h1))) rfl)
    have s2 : xSet 4 (xLift (op2 gIx (eVar 2) (op2 gMod (op2 gFdiv (eVar 1) (eC (.int 40))) (eC (.int 10))))) (Qx ns.tail V P A none) = .nx (Qx ns.tail V P A B) :=
      xSet_ok (xLift_ok (k := .cl) (op2_ok (k1 := .cl) (x := .lst (NMS.map D.str)) rfl (mdc_ok (y := 10) (dv_ok (y := 40) (ev A none) (by decide)) (by decide)) (gIx_t0 (List.getElem?_eq_getElem h2))) rfl)
    have t1 : t2 gEq (op2 gMod (eVar 1) (eC (.int 4))) (eC (.int 1)) (Qx ns.tail V P A B) = .ok (v % 4 == 1) := t2_ok (k := .cl) (mdc_ok (y := 4) (ev A B) (by decide)) (k2 := .cl) (y := .int ((1 : Nat) : Int)) rfl (gEq_n _ 1)
    by_cases c1 : v % 4 = 1
    · rw [show (v % 4 == 1) = true from beq_iff_eq.mpr c1] at t1
      refine fin ns.tail (.tup [.str WAY, .str NMS[v / 4 % 10], .str NMS[v / 40 % 10]]) _ _ A B (Asked.way (List.getElem_mem h1) (List.getElem_mem h2)) ?_ (start _ _ (xSeq_n (xIf_f (g := xSkip) t0 rfl) (xSeq_n s1 (xSeq_n s2 (xSeq_r (xIf_t t1 (xSeq_r (xRet_ok (xLift_ok (k := .cl) (disp_ok (es := [(.cl, .str WAY), (.cl, .str NMS[v / 4 % 10]), (.cl, .str NMS[v / 40 % 10])]) rfl rfl (by show 3 ≤ 16777216; decide) rfl) rfl)))))))))
      rfl
    · rw [show (v % 4 == 1) = false from beq_false_of_ne c1] at t1
      have h3 : v % 2 < 2 := Nat.mod_lt _ (by decide)
      have h4 : v / 400 % 13 < 13 := Nat.mod_lt _ (by decide)
      have e1 := pick_ok (ns := tup_COUNTED) (ρ := Qx ns.tail V P A B) (fs := (aCons (eC (.str [119, 97, 121, 115])) (aCons (eC (.str [99, 111, 117, 110, 116])) (aNil)))) rfl (mdc_ok (y := 2) (ev A B) (by decide)) h3
      have e2 := mdc_ok (y := 13) (dv_ok (y := 400) (ev A B) (by decide)) (by decide)
      refine fin ns.tail (.tup [.str tup_COUNTED[v % 2], .str NMS[v / 4 % 10], .str NMS[v / 40 % 10], .int ((v / 400 % 13 : Nat) : Int)]) _ _ A B (Asked.cnt (List.getElem_mem h3) (List.getElem_mem h1) (List.getElem_mem h2) h4) ?_ (start _ _ (xSeq_n (xIf_f (g := xSkip) t0 rfl) (xSeq_n s1 (xSeq_n s2 (xSeq_n (xIf_f (g := xSkip) t1 rfl) (xSeq_r (xRet_ok (xLift_ok (k := .cl) (disp_ok (es := [(.cl, .str tup_COUNTED[v % 2]), (.cl, .str NMS[v / 4 % 10]), (.cl, .str NMS[v / 40 % 10]), (.cl, .int ((v / 400 % 13 : Nat) : Int))]) (aCons_ok e1 (aCons_ok rfl (aCons_ok rfl (aCons_ok e2 rfl)))) rfl (by show 4 ≤ 16777216; decide) rfl) rfl))))))))
      rfl
end PL
set_option Elab.async false
set_option linter.all false
set_option maxRecDepth 100000
set_option maxHeartbeats 4000000
/-! Oj81: bent texts. -/
namespace PL
open PySem PySem.Spec L2

/-- a text with a bound on its length and on its separators -/
def Tz (ρ : Ro) (f : EF) (n c : Nat) : Prop := ∃ x : List Nat, f ρ = .ok (.cl, .str x) ∧ x.length ≤ n ∧ cnt x ≤ c
def wl (xs : List (List Nat)) : Nat := (xs.map fun w => w.length + 1).sum
def wc (xs : List (List Nat)) : Nat := (xs.map fun w => cnt w + 1).sum
def Lz (ρ : Ro) (f : EF) (n c : Nat) : Prop := ∃ k, ∃ xs : List (List Nat), f ρ = .ok (k, .lst (xs.map D.str)) ∧ wl xs ≤ n ∧ wc xs ≤ c
def TzA (ρ : Ro) (fs : AF) (m n c : Nat) : Prop := ∃ es : List Ev, ∃ xs : List (List Nat), fs ρ = .ok es ∧ es.map (·.2) = xs.map D.str ∧ es.all okE = true ∧ xs.length = m ∧ ∀ x ∈ xs, x.length ≤ n ∧ cnt x ≤ c
theorem cnt_take (x : List Nat) (n : Nat) : cnt (x.take n) ≤ cnt x := List.Sublist.countP_le (List.take_sublist n x)
theorem cnt_drop (x : List Nat) (n : Nat) : cnt (x.drop n) ≤ cnt x := List.Sublist.countP_le (List.drop_sublist n x)
theorem sum_take {α : Type} (f : α → Nat) : ∀ (xs : List α) (n : Nat), ((xs.take n).map f).sum ≤ (xs.map f).sum
  | [], n => by rw [List.take_nil]; exact Nat.le_refl _
  | x :: xs, 0 => by rw [List.take_zero]; exact Nat.zero_le _
  | x :: xs, n + 1 => by
    rw [List.take_succ_cons, List.map_cons, List.map_cons, List.sum_cons, List.sum_cons]
    have := sum_take f xs n
    omega
theorem sum_drop {α : Type} (f : α → Nat) : ∀ (xs : List α) (n : Nat), ((xs.drop n).map f).sum ≤ (xs.map f).sum
  | [], n => by rw [List.drop_nil]; exact Nat.le_refl _
  | x :: xs, 0 => Nat.le_refl _
  | x :: xs, n + 1 => by
    rw [List.drop_succ_cons, List.map_cons, List.sum_cons]
    have := sum_drop f xs n
    omega
theorem wl_app (a b : List (List Nat)) : wl (a ++ b) = wl a + wl b := by unfold wl; rw [List.map_append, List.sum_append]
theorem wc_app (a b : List (List Nat)) : wc (a ++ b) = wc a + wc b := by unfold wc; rw [List.map_append, List.sum_append]
theorem join_wl : ∀ xs : List (List Nat), (TL.joinL [32] xs).length ≤ wl xs ∧ cnt (TL.joinL [32] xs) ≤ wc xs
  | [] => ⟨Nat.le_refl _, Nat.le_refl _⟩
  | [p] => ⟨by show p.length ≤ p.length + 1 + 0; omega, by show cnt p ≤ cnt p + 1 + 0; omega⟩
  | p :: q :: r => by
    obtain ⟨h1, h2⟩ := join_wl (q :: r)
    have e : TL.joinL [32] (p :: q :: r) = p ++ 32 :: TL.joinL [32] (q :: r) := rfl
    have e1 : wl (p :: q :: r) = p.length + 1 + wl (q :: r) := by unfold wl; rw [List.map_cons, List.sum_cons]
    have e2 : wc (p :: q :: r) = cnt p + 1 + wc (q :: r) := by unfold wc; rw [List.map_cons, List.sum_cons]
    rw [e, e1, e2, List.length_append, List.length_cons, cnt_app, cnt_sep _ rfl]
    omega
theorem wl_join : ∀ {xs : List (List Nat)}, xs ≠ [] → wl xs = (TL.joinL [32] xs).length + 1 ∧ wc xs = cnt (TL.joinL [32] xs) + 1
  | [], h => absurd rfl h
  | [p], _ => ⟨rfl, rfl⟩
  | p :: q :: r, _ => by
    obtain ⟨h1, h2⟩ := wl_join (xs := q :: r) (List.cons_ne_nil _ _)
    have e : TL.joinL [32] (p :: q :: r) = p ++ 32 :: TL.joinL [32] (q :: r) := rfl
    have e1 : wl (p :: q :: r) = p.length + 1 + wl (q :: r) := by unfold wl; rw [List.map_cons, List.sum_cons]
    have e2 : wc (p :: q :: r) = cnt p + 1 + wc (q :: r) := by unfold wc; rw [List.map_cons, List.sum_cons]
    rw [e, e1, e2, List.length_append, List.length_cons, cnt_app, cnt_sep _ rfl]
    omega
theorem wl_wds (t : List Nat) : wl (wds t) = t.length + 1 ∧ wc (wds t) = cnt t + 1 := by
  have h := wl_join (wds_ne t)
  have j : TL.joinL [32] (wds t) = t := join_cut t []
  rw [j] at h
  exact h
theorem size_wl : ∀ xs : List (List Nat), joinSize [32] xs = wl xs
  | [] => rfl
  | p :: r => by
    have ih := size_wl r
    unfold joinSize wl at *
    simp only [List.map_cons, List.sum_cons, List.length_cons, List.length_nil] at *
    omega
section
variable {ρ : Ro} {a b l : EF} {n m c d : Nat} {fs : AF}
theorem Tz.add (h1 : Tz ρ a n c) (h2 : Tz ρ b m d) (hz : n + m ≤ 16777216) : Tz ρ (op2 gAdd a b) (n + m) (c + d) := by
  obtain ⟨x, e, l, q⟩ := h1
  obtain ⟨y, e', l', q'⟩ := h2
  exact ⟨_, addS e e' (by omega), by rw [List.length_append]; omega, by rw [cnt_app]; omega⟩
theorem Tz.con (x : List Nat) : Tz ρ (eC (.str x)) x.length (cnt x) := ⟨_, rfl, Nat.le_refl _, Nat.le_refl _⟩
theorem Tz.to (h1 : Tz ρ a n c) (h2 : Nm ρ b m) (hz : n ≤ 16777216) : Tz ρ (eSl a (oSome (eC (.int 0))) (oSome b)) n c := by
  obtain ⟨x, e, l, q⟩ := h1
  obtain ⟨q', y, e', l'⟩ := h2
  exact ⟨_, slTo e e' (by omega), by rw [List.length_take]; omega, Nat.le_trans (cnt_take _ _) q⟩
theorem Tz.from (h1 : Tz ρ a n c) (h2 : Nm ρ b m) (hz : n ≤ 16777216) : Tz ρ (eSl a (oSome b) oNo) n c := by
  obtain ⟨x, e, l, q⟩ := h1
  obtain ⟨q', y, e', l'⟩ := h2
  exact ⟨_, slFrom e e' (by omega), by rw [List.length_drop]; omega, Nat.le_trans (cnt_drop _ _) q⟩
theorem Lz.to (h1 : Lz ρ a n c) (h2 : Nm ρ b m) : Lz ρ (eSl a (oSome (eC (.int 0))) (oSome b)) n c := by
  obtain ⟨k, x, e, l, q⟩ := h1
  obtain ⟨q', y, e', l'⟩ := h2
  exact ⟨_, x.take y, by rw [List.map_take]; exact slToL e e', Nat.le_trans (sum_take _ _ _) l, Nat.le_trans (sum_take _ _ _) q⟩
theorem Lz.from (h1 : Lz ρ a n c) (h2 : Nm ρ b m) : Lz ρ (eSl a (oSome b) oNo) n c := by
  obtain ⟨k, x, e, l, q⟩ := h1
  obtain ⟨q', y, e', l'⟩ := h2
  exact ⟨_, x.drop y, by rw [List.map_drop]; exact slFromL e e', Nat.le_trans (sum_drop _ _ _) l, Nat.le_trans (sum_drop _ _ _) q⟩
theorem wl_len (xs : List (List Nat)) : xs.length ≤ wl xs := by
  induction xs with
  | nil => exact Nat.le_refl _
  | cons p r ih =>
    have : wl (p :: r) = p.length + 1 + wl r := by unfold wl; rw [List.map_cons, List.sum_cons]
    rw [this, List.length_cons]; omega
theorem Lz.add (h1 : Lz ρ a n c) (h2 : Lz ρ b m d) (hz : n + m ≤ 100000) : Lz ρ (op2 gAdd a b) (n + m) (c + d) := by
  obtain ⟨k, x, e, l, q⟩ := h1
  obtain ⟨k', y, e', l', q'⟩ := h2
  have lx := wl_len x
  have ly := wl_len y
  refine ⟨.fr, x ++ y, op2_ok e e' ?_, by rw [wl_app]; omega, by rw [wc_app]; omega⟩
  rw [List.map_append]
  exact gAdd_l (by rw [List.length_map, List.length_map]; omega)
theorem Lz.one (h : Tz ρ a n c) : Lz ρ (disp (fun ds => (.fr, .lst ds)) (aCons a aNil)) (n + 1) (c + 1) := by
  obtain ⟨x, e, l, q⟩ := h
  exact ⟨.fr, [x], disp_ok (es := [(.cl, .str x)]) (aCons_ok e rfl) rfl (by show 1 ≤ 16777216; decide) rfl, by show x.length + 1 + 0 ≤ n + 1; omega, by show cnt x + 1 + 0 ≤ c + 1; omega⟩
theorem Tz.join (h : Lz ρ l n c) (hz : n ≤ 100000) : Tz ρ (mth1 gJoin (eC (.str [32])) l) n c := by
  obtain ⟨k, x, e, q1, q2⟩ := h
  obtain ⟨j1, j2⟩ := join_wl x
  exact ⟨_, mth1_ok (k1 := .cl) (a := [32]) rfl e (gJoin_l (by rw [size_wl]; omega)), by omega, by omega⟩
theorem rep1_len (c : Nat) (z : List Nat) : ∀ x : List Nat, (rep1 c z x).length ≤ x.length + z.length ∧ cnt (rep1 c z x) ≤ cnt x + cnt z
  | [] => ⟨Nat.zero_le _, Nat.zero_le _⟩
  | d :: r => by
    obtain ⟨h1, h2⟩ := rep1_len c z r
    show (if d = c then z ++ r else d :: rep1 c z r).length ≤ _ ∧ cnt (if d = c then z ++ r else d :: rep1 c z r) ≤ _
    have e : cnt (d :: r) = (if sep d = true then 1 else 0) + cnt r := by unfold cnt; rw [List.countP_cons]; omega
    by_cases q : d = c
    · rw [if_pos q, List.length_append, cnt_app, List.length_cons, e]
      split <;> omega
    · have e2 : cnt (d :: rep1 c z r) = (if sep d = true then 1 else 0) + cnt (rep1 c z r) := by unfold cnt; rw [List.countP_cons]; omega
      rw [if_neg q, List.length_cons, List.length_cons, e, e2]
      split <;> omega
theorem Tz.rep (c' : Nat) (z : List Nat) (h : Tz ρ a n c) (hz : n + z.length ≤ 16777216) : Tz ρ (op1 (gRep1 c' z) a) (n + z.length) (c + cnt z) := by
  obtain ⟨x, e, l, q⟩ := h
  obtain ⟨h1, h2⟩ := rep1_len c' z x
  exact ⟨_, op1_ok e (if_pos (by omega)), by omega, by omega⟩
theorem TzA.nil : TzA ρ aNil 0 n c := ⟨[], [], rfl, rfl, rfl, rfl, fun _ h => absurd h List.not_mem_nil⟩
theorem TzA.cons {k q : Nat} (h : Tz ρ a k q) (hk : k ≤ n) (hq : q ≤ c) (hs : TzA ρ fs m n c) : TzA ρ (aCons a fs) (m + 1) n c := by
  obtain ⟨x, e, l, lc⟩ := h
  obtain ⟨es, xs, e1, e2, e3, e4, e5⟩ := hs
  refine ⟨(.cl, .str x) :: es, x :: xs, aCons_ok e e1, by rw [List.map_cons, List.map_cons, e2], ?_, by rw [List.length_cons, e4], fun y hy => (List.mem_cons.mp hy).elim (fun z => by rw [z]; exact ⟨by omega, by omega⟩) (e5 y)⟩
  rw [List.all_cons, e3, Bool.and_true]
  rfl
theorem TzA.disp (h : TzA ρ fs m n c) (hz : m ≤ 16777216) : ∃ xs : List (List Nat), disp (fun ds => (.fr, .lst ds)) fs ρ = .ok (.fr, .lst (xs.map D.str)) ∧ xs.length = m ∧ ∀ x ∈ xs, x.length ≤ n ∧ cnt x ≤ c := by
  obtain ⟨es, xs, e1, e2, e3, e4, e5⟩ := h
  refine ⟨xs, disp_ok e1 e3 ?_ e2, e4, e5⟩
  have := congrArg List.length e2
  rw [List.length_map, List.length_map] at this
  omega
end
def SGN : List Nat := [97, 98, 99, 112, 32, 40, 41, 47, 42, 46, 48, 49, 57]
def NEW : List (List Nat) := [[97, 108, 108], [112, 97, 116, 104], [49, 50], [49, 51], [48, 49, 50], [98, 111, 116, 104], [], [110, 101, 101, 100, 115], [40, 97, 108, 108], [102, 105, 116, 115, 32, 42, 42], [119, 97, 121]]
theorem new_sz : NEW.all (fun x => decide (x.length ≤ 7) && decide (cnt x ≤ 1)) = true := by decide
theorem bent_ok {t ds : List Nat} (hp : 0 < t.length) (hl : t.length ≤ 200) (hc : cnt t ≤ 40) (hd : 3 ≤ ds.length) :
    ∃ xs : List (List Nat), F__law_bent [.str t, numD ds] = .ok (.fr, .lst (xs.map D.str)) ∧ xs.length ≤ 1000 ∧ ∀ x ∈ xs, x.length ≤ 90000 ∧ cnt x < 110 := by
  show ∃ xs : List (List Nat), fnD 9 2 B__law_bent [.str t, numD ds] = _ ∧ _
  let T : Sl := some (false, .str t)
  let Dr : Sl := some (false, numD ds)
  let Sg : Sl := some (false, .str SGN)
  let at' := ds[0] % t.length
  have hat : at' < t.length := Nat.mod_lt _ hp
  let A : Sl := some (false, .int (at' : Nat))
  let si := ds[1] % 13
  have hsi : si < SGN.length := Nat.mod_lt _ (by decide)
  let C : Sl := some (false, .str [SGN[si]])
  let W : Sl := some (true, .lst ((wds t).map D.str))
  have hwn : 0 < (wds t).length := List.length_pos_iff.mpr (wds_ne t)
  let sp := ds[2] % (wds t).length
  let Sp : Sl := some (false, .int (sp : Nat))
  have s2 : sSet 2 (eC (.str [97, 98, 99, 112, 32, 40, 41, 47, 42, 46, 48, 49, 57])) [T, Dr, none, none, none, none, none, none, none] = .nx [T, Dr, Sg, none, none, none, none, none, none] := rfl
  have s3 : sSet 3 (op2 gMod (op2 gIx (eVar 1) (eC (.int 0))) (op1 gLen (eVar 0))) [T, Dr, Sg, none, none, none, none, none, none] = .nx [T, Dr, Sg, A, none, none, none, none, none] :=
    sSet_c (md_ok (ixN_ok (k := .cl) (k2 := .cl) (i := 0) rfl rfl (by omega)) (lenS (k := .cl) rfl (by omega)) hp)
  have s4 : sSet 4 (op2 gIx (eVar 2) (op2 gMod (op2 gIx (eVar 1) (eC (.int 1))) (eC (.int 13)))) [T, Dr, Sg, A, none, none, none, none, none] = .nx [T, Dr, Sg, A, C, none, none, none, none] :=
    sSet_c (ixS (x := SGN) (n := si) (c := SGN[si]) (k := .cl) rfl (mdc_ok (y := 13) (ixN_ok (k := .cl) (k2 := .cl) (i := 1) rfl rfl (by omega)) (by decide)) (by decide) (List.getElem?_eq_getElem hsi))
  have s5 : sSet 5 (mth1 gSplit (eVar 0) (eC (.str [32]))) [T, Dr, Sg, A, C, none, none, none, none] = .nx [T, Dr, Sg, A, C, W, none, none, none] := sSet_f (split1 32 (by decide) (k := .cl) rfl (by omega)) (by show 5 < 9; decide)
  have lw : op1 gLen (eVar 5) [T, Dr, Sg, A, C, W, none, none, none] = .ok (.cl, .int ((wds t).length : Nat)) := by
    refine op1_ok (k1 := .pk) (x := .lst ((wds t).map D.str)) rfl ?_
    show R.ok (Kd.cl, D.int (((wds t).map D.str).length : Nat)) = _
    rw [List.length_map]
  have s6 : sSet 6 (op2 gMod (op2 gIx (eVar 1) (eC (.int 2))) (op1 gLen (eVar 5))) [T, Dr, Sg, A, C, W, none, none, none] = .nx [T, Dr, Sg, A, C, W, Sp, none, none] :=
    sSet_c (md_ok (ixN_ok (k := .cl) (k2 := .cl) (i := 2) rfl rfl (by omega)) lw hwn)
  have tT : ∀ f n : Sl, Tz [T, Dr, Sg, A, C, W, Sp, f, n] (eVar 0) 200 40 := fun f n => ⟨t, rfl, hl, hc⟩
  have tC : ∀ f n : Sl, Tz [T, Dr, Sg, A, C, W, Sp, f, n] (eVar 4) 1 1 := fun f n => ⟨[SGN[si]], rfl, Nat.le_refl _, by
    unfold cnt
    exact Nat.le_trans List.countP_le_length (Nat.le_refl _)⟩
  have nA : ∀ f n : Sl, Nm [T, Dr, Sg, A, C, W, Sp, f, n] (eVar 3) 200 := fun f n => ⟨.cl, at', rfl, by omega⟩
  have nA1 : ∀ f n : Sl, Nm [T, Dr, Sg, A, C, W, Sp, f, n] (op2 gAdd (eVar 3) (eC (.int 1))) 201 := fun f n => Nm.add (nA f n) (Nm.con 1)
  have nS : ∀ f n : Sl, Nm [T, Dr, Sg, A, C, W, Sp, f, n] (eVar 6) sp := fun f n => ⟨.cl, sp, rfl, Nat.le_refl _⟩
  have nS1 : ∀ f n : Sl, Nm [T, Dr, Sg, A, C, W, Sp, f, n] (op2 gAdd (eVar 6) (eC (.int 1))) (sp + 1) := fun f n => Nm.add (nS f n) (Nm.con 1)
  have lW : ∀ f n : Sl, Lz [T, Dr, Sg, A, C, W, Sp, f, n] (eVar 5) 201 41 := fun f n => by
    obtain ⟨h1, h2⟩ := wl_wds t
    exact ⟨.pk, wds t, rfl, by omega, by omega⟩
  have d8 := TzA.disp (n := 500) (c := 109) (TzA.cons (Tz.add (Tz.to (tT none none) (nA none none) (by decide)) (Tz.from (tT none none) (nA1 none none) (by decide)) (by decide)) (by decide) (by decide)
    (TzA.cons (Tz.add (Tz.add (Tz.to (tT none none) (nA none none) (by decide)) (tC none none) (by decide)) (Tz.from (tT none none) (nA none none) (by decide)) (by decide)) (by decide) (by decide)
    (TzA.cons (Tz.add (Tz.add (Tz.to (tT none none) (nA none none) (by decide)) (tC none none) (by decide)) (Tz.from (tT none none) (nA1 none none) (by decide)) (by decide)) (by decide) (by decide)
    (TzA.cons (Tz.add (tT none none) (Tz.con [32]) (by decide)) (by decide) (by decide)
    (TzA.cons (Tz.add (Tz.con [32]) (tT none none) (by decide)) (by decide) (by decide)
    (TzA.cons (Tz.to (tT none none) (nA none none) (by decide)) (by decide) (by decide)
    (TzA.cons (Tz.add (tT none none) (tT none none) (by decide)) (by decide) (by decide)
    (TzA.cons (Tz.rep 32 [32, 32] (tT none none) (by decide)) (by decide) (by decide) TzA.nil)))))))) (by decide)
  obtain ⟨xs, ex, lx, px⟩ := d8
  let F : Sl := some (true, .lst (xs.map D.str))
  let ni := ds[1] / 13 % 11
  have hni : ni < NEW.length := Nat.mod_lt _ (by decide)
  let N : Sl := some (false, .str NEW[ni])
  have s8 : sSet 8 (op2 gIx (disp (fun ds => (.fr, .lst ds)) (aCons (eC (.str [97, 108, 108])) (aCons (eC (.str [112, 97, 116, 104])) (aCons (eC (.str [49, 50])) (aCons (eC (.str [49, 51])) (aCons (eC (.str [48, 49, 50])) (aCons (eC (.str [98, 111, 116, 104])) (aCons (eC (.str [])) (aCons (eC (.str [110, 101, 101, 100, 115])) (aCons (eC (.str [40, 97, 108, 108])) (aCons (eC (.str [102, 105, 116, 115, 32, 42, 42])) (aCons (eC (.str [119, 97, 121])) (aNil))))))))))))) (op2 gMod (op2 gFdiv (op2 gIx (eVar 1) (eC (.int 1))) (eC (.int 13))) (eC (.int 11)))) [T, Dr, Sg, A, C, W, Sp, F, none] = .nx [T, Dr, Sg, A, C, W, Sp, F, N] :=
    sSet_c (pick_ok (ns := NEW) rfl (mdc_ok (y := 11) (dv_ok (y := 13) (ixN_ok (k := .cl) (k2 := .cl) (i := 1) rfl rfl (by omega)) (by decide)) (by decide)) hni)
  have nz := List.all_eq_true.mp new_sz NEW[ni] (List.getElem_mem hni)
  rw [Bool.and_eq_true, decide_eq_true_eq, decide_eq_true_eq] at nz
  have tN : Tz [T, Dr, Sg, A, C, W, Sp, F, N] (eVar 8) 7 1 := ⟨NEW[ni], rfl, nz.1, nz.2⟩
  have d5 := TzA.disp (n := 500) (c := 109) (TzA.cons (Tz.join (Lz.add (Lz.to (lW F N) (nS F N)) (Lz.from (lW F N) (nS1 F N)) (by decide)) (by decide)) (by decide) (by decide)
    (TzA.cons (Tz.join (Lz.add (Lz.add (Lz.to (lW F N) (nS F N)) (Lz.one tN) (by decide)) (Lz.from (lW F N) (nS F N)) (by decide)) (by decide)) (by decide) (by decide)
    (TzA.cons (Tz.join (Lz.add (Lz.add (Lz.to (lW F N) (nS F N)) (Lz.one tN) (by decide)) (Lz.from (lW F N) (nS1 F N)) (by decide)) (by decide)) (by decide) (by decide)
    (TzA.cons (Tz.con []) (by decide) (by decide)
    (TzA.cons (Tz.add (tT F N) (Tz.con [41]) (by decide)) (by decide) (by decide) TzA.nil))))) (by decide)
  obtain ⟨ys, ey, ly, py⟩ := d5
  have eF : eVar 7 [T, Dr, Sg, A, C, W, Sp, F, N] = .ok (.pk, .lst (xs.map D.str)) := rfl
  have ret := op2_ok eF ey (gAdd_l (a := xs.map D.str) (b := ys.map D.str) (by rw [List.length_map, List.length_map]; omega))
  rw [← List.map_append] at ret
  refine ⟨xs ++ ys, fn_ok (ρ0 := [T, Dr, none, none, none, none, none, none, none]) rfl rfl (sSeq_n s2 (sSeq_n s3 (sSeq_n s4 (sSeq_n s5 (sSeq_n s6 (sSeq_n (ρ1 := [T, Dr, Sg, A, C, W, Sp, F, none]) (sSet_f ex (by show 7 < 9; decide)) (sSeq_n s8 (sSeq_r (sRet_ok ret)))))))) ) rfl, by rw [List.length_append]; omega, fun x hx => ?_⟩
  rcases List.mem_append.mp hx with h | h
  · have := px x h; omega
  · have := py x h; omega
end PL
set_option Elab.async false
set_option linter.all false
set_option maxRecDepth 100000
set_option maxHeartbeats 4000000
/-! Ok81: the law's numbers (as in Ma55). -/
namespace PL
open PySem PySem.Spec L2
theorem e_cell (ns : List Int) : ∃ z : Int, F__law_cell [.rol (ns.map D.int), .int 0] = .ok (.cl, .int z) := by
  let ρ : Ro := [some (false, .rol (ns.map D.int)), some (false, .int 0)]
  have l1 : op1 gLen (eVar 0) ρ = .ok (.cl, .int ((ns.map D.int).length : Nat)) := rfl
  rw [List.length_map] at l1
  have t : t2 gLt (eVar 1) (op1 gLen (eVar 0)) ρ = .ok (decide ((0 : Int) < (ns.length : Int))) := t2_ok (k1 := .cl) (x := .int 0) rfl l1 rfl
  cases ns with
  | nil =>
    refine ⟨0, fn_ok (ρ0 := ρ) (s := .rt (.cl, .int 0)) rfl rfl ?_ rfl⟩
    exact sSeq_n (sIf_f t rfl) rfl
  | cons z r =>
    refine ⟨z, fn_ok (ρ0 := ρ) (s := .rt (.cl, .int z)) rfl rfl ?_ rfl⟩
    have t : t2 gLt (eVar 1) (op1 gLen (eVar 0)) ρ = .ok true := by
      rw [t, decide_eq_true]
      rw [List.length_cons]; omega
    exact sSeq_r (sIf_t t (sRet_ok (op1_ok (op2_ok (k1 := .cl) (x := .rol ((z :: r).map D.int)) (k2 := .cl) (y := .int 0) rfl rfl (gIx_r (i := 0) rfl)) rfl)))
theorem num_loop1 (count limit : Nat) (hl : 0 < limit ∧ limit < 1073741824) : ∀ (m i : Nat) (cell : Int) (fs : List Nat) (a b : Sl), fs.length + m ≤ 16000000 → Bel limit fs →
    ∃ (ns : List Nat) (cell' : Int) (a' : Sl), forL (gNm 4) (sSeq (sApp 3 (op2 gMod (op1 gInt (eVar 0)) (eVar 2))) (sSet 0 (op2 gFdiv (op1 gInt (eVar 0)) (eVar 2)))) ((List.range' i m).map fun k : Nat => D.int k)
        [some (false, .int cell), some (false, .int count), some (false, .int limit), some (true, .lst ((fs.map fun n : Nat => (n : Int)).map D.int)), a, b]
      = .nx [some (false, .int cell'), some (false, .int count), some (false, .int limit), some (true, .lst ((ns.map fun n : Nat => (n : Int)).map D.int)), a', b] ∧ ns.length = fs.length + m ∧ Bel limit ns
  | 0, i, cell, fs, a, b, hm, hb => ⟨fs, cell, a, rfl, rfl, hb⟩
  | m + 1, i, cell, fs, a, b, hm, hb => by
    have e0 : 0 ≤ cell % (limit : Int) := Int.emod_nonneg _ (by omega)
    have e1 : cell % (limit : Int) < limit := Int.emod_lt_of_pos _ (by omega)
    obtain ⟨n, hn⟩ := Int.eq_ofNat_of_zero_le e0
    obtain ⟨ns, cell', a', h1, h2, h3⟩ := num_loop1 count limit hl m (i + 1) (cell / limit) (fs ++ [n]) (some (false, .int i)) b (by rw [List.length_append, List.length_singleton]; omega) (fun x hx => (List.mem_append.mp hx).elim (hb x) fun z => by rw [List.mem_singleton.mp z]; omega)
    refine ⟨ns, cell', a', ?_, by rw [h2, List.length_append, List.length_singleton]; omega, h3⟩
    rw [List.range'_succ, List.map_cons]
    let ρ1 : Ro := [some (false, .int cell), some (false, .int count), some (false, .int limit), some (true, .lst ((fs.map fun n : Nat => (n : Int)).map D.int)), some (false, .int i), b]
    let ρ2 : Ro := [some (false, .int cell), some (false, .int count), some (false, .int limit), some (true, .lst (((fs ++ [n]).map fun n : Nat => (n : Int)).map D.int)), some (false, .int i), b]
    have c0 : op1 gInt (eVar 0) ρ1 = .ok (.cl, .int cell) := rfl
    have c0' : op1 gInt (eVar 0) ρ2 = .ok (.cl, .int cell) := rfl
    have c2 : eVar 2 ρ1 = .ok (.cl, .int limit) := rfl
    have c2' : eVar 2 ρ2 = .ok (.cl, .int limit) := rfl
    refine forL_n (ρ1 := ρ1) (ρ2 := _) rfl (sSeq_n (ρ1 := ρ2) ?_ (sSet_c (op2_ok c0' c2' (gFdiv_i (by omega))))) h1
    rw [sApp_ok (ds := (fs.map fun n : Nat => (n : Int)).map D.int) (e := (.cl, .int n)) rfl (op2_ok c0 c2 (by rw [gMod_i (by omega), hn])) rfl (by rw [List.length_map, List.length_map]; omega)]
    show SRes.nx [some (false, .int cell), some (false, .int count), some (false, .int limit), some (true, .lst ((fs.map fun n : Nat => (n : Int)).map D.int ++ [D.int n])), some (false, .int i), b] = SRes.nx ρ2
    show _ = SRes.nx [some (false, .int cell), some (false, .int count), some (false, .int limit), some (true, .lst (((fs ++ [n]).map fun n : Nat => (n : Int)).map D.int)), some (false, .int i), b]
    rw [List.map_append, List.map_append]
    rfl
def nbody : SF := (sSeq (sSet 5 (op2 gMod (op1 gInt (op2 gAdd (op2 gAdd (op2 gMulI (eVar 0) (eC (.int 48271))) (op2 gMulI (eVar 4) (eC (.int 69621)))) (eC (.int 7)))) (eC (.int 2147483647)))) <|
    sSeq (sSet 5 (op2 gMod (op1 gInt (op2 gAdd (op2 gAdd (op2 gAdd (op2 gMulI (eVar 5) (eVar 5)) (op2 gMulI (eVar 5) (eC (.int 40692)))) (op2 gMulI (eVar 4) (eC (.int 16807)))) (eC (.int 11)))) (eC (.int 2147483399)))) <|
    sApp 3 (op2 gMod (op1 gInt (op2 gFdiv (eVar 5) (eC (.int 32)))) (eVar 2)))
theorem num_turn (count limit i : Nat) (hl : 0 < limit ∧ limit < 1073741824) (cell : Int) (fs : List Nat) (b : Sl) (hm : fs.length < 16000000) :
    ∃ (n : Nat) (m2 : Int), n < limit ∧ nbody [some (false, .int cell), some (false, .int count), some (false, .int limit), some (true, .lst ((fs.map fun n : Nat => (n : Int)).map D.int)), some (false, .int i), b]
      = .nx [some (false, .int cell), some (false, .int count), some (false, .int limit), some (true, .lst (((fs ++ [n]).map fun n : Nat => (n : Int)).map D.int)), some (false, .int i), some (false, .int m2)] := by
  let m1 : Int := (cell * 48271 + (i : Int) * 69621 + 7) % 2147483647
  have hm1 : 0 ≤ m1 ∧ m1 < 2147483647 := ⟨Int.emod_nonneg _ (by decide), Int.emod_lt_of_pos _ (by decide)⟩
  let m2 : Int := (m1 * m1 + m1 * 40692 + (i : Int) * 16807 + 11) % 2147483399
  have e0 : 0 ≤ m2 / 32 % (limit : Int) := Int.emod_nonneg _ (by omega)
  have e1 : m2 / 32 % (limit : Int) < limit := Int.emod_lt_of_pos _ (by omega)
  obtain ⟨n, hn⟩ := Int.eq_ofNat_of_zero_le e0
  refine ⟨n, m2, by omega, ?_⟩
  let L : D := .lst ((fs.map fun n : Nat => (n : Int)).map D.int)
  let ρ1 : Ro := [some (false, .int cell), some (false, .int count), some (false, .int limit), some (true, L), some (false, .int i), b]
  let ρ2 : Ro := [some (false, .int cell), some (false, .int count), some (false, .int limit), some (true, L), some (false, .int i), some (false, .int m1)]
  let ρ3 : Ro := [some (false, .int cell), some (false, .int count), some (false, .int limit), some (true, L), some (false, .int i), some (false, .int m2)]
  have k : ∀ (z : Int) (ρ : Ro), eC (.int z) ρ = .ok (.cl, .int z) := fun _ _ => rfl
  have b0 : eVar 0 ρ1 = .ok (.cl, .int cell) := rfl
  have b4 : eVar 4 ρ1 = .ok (.cl, .int i) := rfl
  have c5 : eVar 5 ρ2 = .ok (.cl, .int m1) := rfl
  have c4 : eVar 4 ρ2 = .ok (.cl, .int i) := rfl
  have d5 : eVar 5 ρ3 = .ok (.cl, .int m2) := rfl
  have d2 : eVar 2 ρ3 = .ok (.cl, .int limit) := rfl
  have x1 := op2_ok (g := gMulI) b0 (k 48271 ρ1) (gMul_i (by decide))
  have x2 := op2_ok (g := gMulI) b4 (k 69621 ρ1) (gMul_i (by decide))
  have x3 := op2_ok (g := gAdd) (op2_ok (g := gAdd) x1 x2 gAdd_i) (k 7 ρ1) gAdd_i
  have x4 : op2 gMod _ _ ρ1 = .ok (.cl, .int m1) := op2_ok (op1_ok (g := gInt) x3 rfl) (k 2147483647 ρ1) (gMod_i (by decide))
  have y1 := op2_ok (g := gMulI) c5 c5 (gMul_i (by omega))
  have y2 := op2_ok (g := gMulI) c5 (k 40692 ρ2) (gMul_i (by decide))
  have y3 := op2_ok (g := gMulI) c4 (k 16807 ρ2) (gMul_i (by decide))
  have y4 := op2_ok (g := gAdd) (op2_ok (g := gAdd) (op2_ok (g := gAdd) y1 y2 gAdd_i) y3 gAdd_i) (k 11 ρ2) gAdd_i
  have y5 : op2 gMod _ _ ρ2 = .ok (.cl, .int m2) := op2_ok (op1_ok (g := gInt) y4 rfl) (k 2147483399 ρ2) (gMod_i (by decide))
  have z1 := op2_ok (g := gFdiv) d5 (k 32 ρ3) (gFdiv_i (by decide))
  have z2 : op2 gMod _ _ ρ3 = .ok (.cl, .int n) := op2_ok (op1_ok (g := gInt) z1 rfl) d2 (by rw [gMod_i (by omega), hn])
  unfold nbody
  refine sSeq_n (ρ1 := ρ2) (sSet_c x4) (sSeq_n (ρ1 := ρ3) (sSet_c y5) ?_)
  rw [sApp_ok (ds := (fs.map fun n : Nat => (n : Int)).map D.int) (e := (.cl, .int n)) rfl z2 rfl (by rw [List.length_map, List.length_map]; omega)]
  show SRes.nx [some (false, .int cell), some (false, .int count), some (false, .int limit), some (true, .lst ((fs.map fun n : Nat => (n : Int)).map D.int ++ [D.int n])), some (false, .int i), some (false, .int m2)] = _
  rw [List.map_append, List.map_append]
  rfl
theorem num_loop2 (count limit : Nat) (hl : 0 < limit ∧ limit < 1073741824) (cell : Int) : ∀ (m i : Nat) (fs : List Nat) (a b : Sl), fs.length + m ≤ 16000000 → Bel limit fs →
    ∃ (ns : List Nat) (a' b' : Sl), forL (gNm 4) nbody ((List.range' i m).map fun k : Nat => D.int k)
        [some (false, .int cell), some (false, .int count), some (false, .int limit), some (true, .lst ((fs.map fun n : Nat => (n : Int)).map D.int)), a, b]
      = .nx [some (false, .int cell), some (false, .int count), some (false, .int limit), some (true, .lst ((ns.map fun n : Nat => (n : Int)).map D.int)), a', b'] ∧ ns.length = fs.length + m ∧ Bel limit ns
  | 0, i, fs, a, b, hm, hb => ⟨fs, a, b, rfl, rfl, hb⟩
  | m + 1, i, fs, a, b, hm, hb => by
    obtain ⟨n, m2, hn, ht⟩ := num_turn count limit i hl cell fs b (by omega)
    obtain ⟨ns, a', b', h1, h2, h3⟩ := num_loop2 count limit hl cell m (i + 1) (fs ++ [n]) (some (false, .int i)) (some (false, .int m2)) (by rw [List.length_append, List.length_singleton]; omega) (fun x hx => (List.mem_append.mp hx).elim (hb x) fun z => by rw [List.mem_singleton.mp z]; omega)
    refine ⟨ns, a', b', ?_, by rw [h2, List.length_append, List.length_singleton]; omega, h3⟩
    rw [List.range'_succ, List.map_cons]
    exact forL_n (ρ1 := [some (false, .int cell), some (false, .int count), some (false, .int limit), some (true, .lst ((fs.map fun n : Nat => (n : Int)).map D.int)), some (false, .int i), b]) rfl ht h1
theorem e_numbers (cell : Int) (count limit : Nat) (hc : count ≤ 1000000) (hl : 0 < limit ∧ limit < 1073741824) :
    ∃ ns : List Nat, F__law_numbers [.int cell, .int count, .int limit] = .ok (.fr, .lst ((ns.map fun n : Nat => (n : Int)).map D.int)) ∧ ns.length = count ∧ Bel limit ns := by
  let ρ0 : Ro := [some (false, .int cell), some (false, .int count), some (false, .int limit), none, none, none]
  let ρ : Ro := [some (false, .int cell), some (false, .int count), some (false, .int limit), some (true, .lst []), none, none]
  have r1 : iRng (eVar 1) ρ = .ok (false, (List.range' 0 count).map fun k : Nat => D.int k) := iRng_ok (k := .cl) rfl (by omega)
  have t : t2 gGe (eVar 0) (op2 gPow (eC (.int 10)) (eC (.int 18))) ρ = .ok (decide ((10 : Int) ^ (18 : Int).toNat ≤ cell)) := t2_ok (k1 := .cl) (x := .int cell) rfl (op2_ok (k1 := .cl) (x := .int 10) (k2 := .cl) (y := .int 18) rfl rfl (gPow_i (by decide))) rfl
  have hs : sSet 3 (disp (fun ds => (.fr, .lst ds)) aNil) ρ0 = .nx ρ := rfl
  cases q : decide ((10 : Int) ^ (18 : Int).toNat ≤ cell) with
  | true =>
    rw [q] at t
    obtain ⟨ns, cell', a', h1, h2, h3⟩ := num_loop1 count limit hl count 0 cell [] none none (by rw [List.length_nil]; omega) (fun _ h => absurd h List.not_mem_nil)
    refine ⟨ns, fn_ok (ρ0 := ρ0) (s := .rt (.fr, .lst ((ns.map fun n : Nat => (n : Int)).map D.int))) rfl rfl ?_ rfl, by rw [h2]; exact Nat.zero_add _, h3⟩
    unfold B__law_numbers
    exact sSeq_n hs (sSeq_r (sIf_t t (sSeq_n (sFor_ok r1 h1) rfl)))
  | false =>
    rw [q] at t
    obtain ⟨ns, a', b', h1, h2, h3⟩ := num_loop2 count limit hl cell count 0 [] none none (by rw [List.length_nil]; omega) (fun _ h => absurd h List.not_mem_nil)
    refine ⟨ns, fn_ok (ρ0 := ρ0) (s := .rt (.fr, .lst ((ns.map fun n : Nat => (n : Int)).map D.int))) rfl rfl ?_ rfl, by rw [h2]; exact Nat.zero_add _, h3⟩
    unfold B__law_numbers
    exact sSeq_n hs (sSeq_n (ρ1 := ρ) (sIf_f t rfl) (sSeq_n (sFor_ok r1 h1) rfl))
end PL
set_option Elab.async false
set_option linter.all false
set_option maxRecDepth 100000
set_option maxHeartbeats 4000000
/-! Ol81: the law answers True. -/
namespace PL
open PySem PySem.Spec L2

theorem for_inv {g : GF} {fb : SF} {Inv : Ro → Prop} : ∀ (ds : List D) (ρ : Ro), Inv ρ → (∀ d ∈ ds, ∀ ρ, Inv ρ → ∃ ρ1 ρ2, g d ρ = some ρ1 ∧ fb ρ1 = .nx ρ2 ∧ Inv ρ2) → ∃ ρ', forL g fb ds ρ = .nx ρ' ∧ Inv ρ'
  | [], ρ, h, _ => ⟨ρ, rfl, h⟩
  | d :: ds, ρ, h, k => by
    obtain ⟨ρ1, ρ2, e1, e2, h2⟩ := k d List.mem_cons_self ρ h
    obtain ⟨ρ', e, h'⟩ := for_inv ds ρ2 h2 fun d hd => k d (List.mem_cons_of_mem _ hd)
    exact ⟨ρ', forL_n e1 e2 e, h'⟩
theorem Smp.Qs {s : List Nat} (hc : cnt s < 110) : Smp 200 ((PL.Qs s).getD .non) := by
  cases h : PL.Qs s with
  | none => exact .non
  | some d =>
    show Smp 200 d
    unfold PL.Qs at h
    split at h
    · split at h
      · cases h
      · rename_i w ps _
        unfold inW at h
        split at h
        · cases e : RQs 110 (s.drop 4) with
          | none => rw [e] at h; cases h
          | some q =>
            rw [e] at h
            cases h
            have cd := cnt_drop s 4
            obtain ⟨wq, tq⟩ := (RQs_iff (n := 110) (t := s.drop 4) (q := q) (by omega)).mp e
            have dq := dep_cnt q
            rw [tq] at dq
            refine .tup _ (by show 2 < 1000; decide) fun d hd => ?_
            rcases List.mem_cons.mp hd with e | hd
            · rw [e]; exact .str _
            · rw [List.mem_singleton.mp hd]; exact (Smp.toD q).mono (by omega)
        · unfold other at h
          split at h
          · split at h
            · cases h
              refine .tup _ (by show 3 < 1000; decide) fun d hd => ?_
              rcases List.mem_cons.mp hd with e | hd
              · rw [e]; exact .str _
              · rcases List.mem_cons.mp hd with e | hd
                · rw [e]; exact .str _
                · rw [List.mem_singleton.mp hd]; exact .str _
            · cases h
          · split at h
            · cases h
              refine .tup _ (by show 4 < 1000; decide) fun d hd => ?_
              rcases List.mem_cons.mp hd with e | hd
              · rw [e]; exact .str _
              · rcases List.mem_cons.mp hd with e | hd
                · rw [e]; exact .str _
                · rcases List.mem_cons.mp hd with e | hd
                  · rw [e]; exact .str _
                  · rw [List.mem_singleton.mp hd]; exact .int _
            · cases h
          · cases h
    · cases h
def chkB : SF := (sIf (tNotF (tVal (eCall (F__law_same 200) 2 (aCons (eCall (F__law_read) 1 (aCons (eVar 7) (aNil))) (aCons (eCall (F__law_due) 1 (aCons (eVar 7) (aNil))) (aNil)))))) (sRet (eC (.bl false))) (sSkip))
theorem getD_noL (s : List Nat) : noL ((PL.Qs s).getD .non) = true := by
  cases h : PL.Qs s with
  | none => rfl
  | some d => exact Qs_noL h
theorem chk_ok {ρ : Ro} {s : List Nat} (h : eVar 7 ρ = .ok (.cl, .str s)) (hz : s.length ≤ 90000) (hc : cnt s < 110) : chkB ρ = .nx ρ := by
  have r1 : eCall F__law_read 1 (aCons (eVar 7) aNil) ρ = .ok (.cl, (PL.Qs s).getD .non) := eCall_ok (es := [(.cl, .str s)]) (aCons_ok h rfl) rfl rfl (law_read_ok hz hc) (getD_noL s)
  have r2 : eCall F__law_due 1 (aCons (eVar 7) aNil) ρ = .ok (.cl, (PL.Qs s).getD .non) := eCall_ok (es := [(.cl, .str s)]) (aCons_ok h rfl) rfl rfl (due_ok hz hc) (getD_noL s)
  exact skip_n (tNot_ok (tVal_b (eCall_ok (es := [(.cl, (PL.Qs s).getD .non), (.cl, (PL.Qs s).getD .non)]) (aCons_ok r1 (aCons_ok r2 rfl)) rfl rfl (same_ok (Smp.Qs hc)) rfl)))
theorem chk_loop {x0 x1 x2 x3 x4 x5 x6 x7 x8 : Sl} (xs : List (List Nat)) (h : ∀ x ∈ xs, x.length ≤ 90000 ∧ cnt x < 110) : ∃ z, forL (gNm 7) chkB (xs.map D.str) [x0, x1, x2, x3, x4, x5, x6, x7, x8] = .nx [x0, x1, x2, x3, x4, x5, x6, z, x8] := by
  obtain ⟨ρ', e, z, ez⟩ := for_inv (g := gNm 7) (fb := chkB) (Inv := fun ρ => ∃ z, ρ = [x0, x1, x2, x3, x4, x5, x6, z, x8]) (xs.map D.str) [x0, x1, x2, x3, x4, x5, x6, x7, x8] ⟨x7, rfl⟩ fun d hd ρ ⟨z, ez⟩ => by
    obtain ⟨x, hx, e⟩ := List.mem_map.mp hd
    subst ez e
    exact ⟨_, _, rfl, chk_ok (s := x) rfl (h x hx).1 (h x hx).2, some (false, .str x), rfl⟩
  exact ⟨z, by rw [e, ez]⟩
def bentB : SF := (sFor (iVal (eCall (F__law_bent) 2 (aCons (eVar 5) (aCons (eSl (eVar 1) (oSome (op2 gAdd (op2 gMulI (eC (.int 3)) (eVar 3)) (op2 gMulI (eC (.int 4)) (eVar 6)))) (oNo)) (aNil))))) (gNm 7) chkB)
def turnB : SF := (sSeq (sSetX 4 2 (xApp 2 0 (fun _ => true) (F__law_question) (aNil))) <|
    sSeq (sSet 5 (eCall (F__law_question_text) 1 (aCons (eVar 4) (aNil)))) <|
    sSeq (sIf (tNotF (tVal (eCall (F__law_same 200) 2 (aCons (disp (fun ds => (.fr, .lst ds)) (aCons (eCall (F_write_question) 1 (aCons (eVar 4) (aNil))) (aCons (eCall (F__law_read) 1 (aCons (eVar 5) (aNil))) (aNil)))) (aCons (disp (fun ds => (.fr, .lst ds)) (aCons (eVar 5) (aCons (op2 gIx (disp (fun ds => (.fr, .lst ds)) (aCons (eVar 4) (aCons (eC .non) (aNil)))) (op1 gInt (op2 gGt (op1 gLen (eVar 5)) (eC (.int 400))))) (aNil)))) (aNil)))))) (sRet (eC (.bl false))) (sSkip)) <|
    sFor (iRng (eC (.int 3))) (gNm 6) bentB)
abbrev NEEDS : List Nat := [110, 101, 101, 100, 115, 32]
abbrev ALL : List Nat := [97, 108, 108]
def FX6 : List (List Nat) := [(SETS ++ (List.replicate 65 NEEDS).flatten) ++ ALL, (SETS ++ (List.replicate 66 NEEDS).flatten) ++ ALL, [115, 101, 116, 32, 112, 97, 116, 104, 32, 97, 47, 47, 98], [115, 101, 116, 32, 102, 105, 116, 115, 32, 42, 42, 42], [115, 101, 116, 32, 102, 105, 116, 115, 32, 97, 47, 42, 42, 47, 98], [115, 101, 116, 32, 40, 97, 108, 108, 32, 98, 111, 116, 104, 32, 97, 108, 108]]
def FX3 : List (List Nat) := [[115, 101, 116, 32, 40, 40, 97, 108, 108, 32, 98, 111, 116, 104, 32, 97, 108, 108, 41, 32, 101, 105, 116, 104, 101, 114, 32, 97, 108, 108, 41], [119, 97, 121, 32, 97, 32, 98, 32, 99], [99, 111, 117, 110, 116, 32, 97, 32, 98, 32, 49, 50]]
theorem fx_ok : (FX6 ++ FX3).all (fun x => decide (x.length ≤ 90000) && decide (cnt x < 110)) = true := by decide +kernel
def someE : EF := (disp (fun ds => (.fr, .lst ds)) (aCons (op2 gAdd (op2 gAdd (eC (.str [115, 101, 116, 32])) (op2 gMulS (eC (.str [110, 101, 101, 100, 115, 32])) (eC (.int 65)))) (eC (.str [97, 108, 108]))) (aCons (op2 gAdd (op2 gAdd (eC (.str [115, 101, 116, 32])) (op2 gMulS (eC (.str [110, 101, 101, 100, 115, 32])) (eC (.int 66)))) (eC (.str [97, 108, 108]))) (aCons (eC (.str [115, 101, 116, 32, 112, 97, 116, 104, 32, 97, 47, 47, 98])) (aCons (eC (.str [115, 101, 116, 32, 102, 105, 116, 115, 32, 42, 42, 42])) (aCons (eC (.str [115, 101, 116, 32, 102, 105, 116, 115, 32, 97, 47, 42, 42, 47, 98])) (aCons (eC (.str [115, 101, 116, 32, 40, 97, 108, 108, 32, 98, 111, 116, 104, 32, 97, 108, 108])) (aNil))))))))
def fixE : EF := (op2 gAdd (eVar 8) (disp (fun ds => (.fr, .lst ds)) (aCons (eC (.str [115, 101, 116, 32, 40, 40, 97, 108, 108, 32, 98, 111, 116, 104, 32, 97, 108, 108, 41, 32, 101, 105, 116, 104, 101, 114, 32, 97, 108, 108, 41])) (aCons (eC (.str [119, 97, 121, 32, 97, 32, 98, 32, 99])) (aCons (eC (.str [99, 111, 117, 110, 116, 32, 97, 32, 98, 32, 49, 50])) (aNil))))))
theorem B_law_eq : B_law = (sSeq (sSet 1 (eCall (F__law_numbers) 3 (aCons (eCall (F__law_cell) 2 (aCons (eVar 0) (aCons (eC (.int 0)) (aNil)))) (aCons (eC (.int 160)) (aCons (eC (.int 5040)) (aNil)))))) <|
    sSeq (sSet 2 (eSl (eVar 1) (oSome (eC (.int 40))) (oNo))) <|
    sSeq (sFor (iRng (eC (.int 6))) (gNm 3) turnB) <|
    sSeq (sSet 8 someE) <|
    sSeq (sFor (iVal fixE) (gNm 7) chkB) <|
    sRet (eC (.bl true))) := rfl
theorem needs_ok (n : Nat) (hn : n ≤ 1000) (ρ : Ro) : op2 gAdd (op2 gAdd (eC (.str [115, 101, 116, 32])) (op2 gMulS (eC (.str [110, 101, 101, 100, 115, 32])) (eC (.int n)))) (eC (.str [97, 108, 108])) ρ = .ok (.cl, .str ((SETS ++ (List.replicate n NEEDS).flatten) ++ ALL)) := by
  have m : op2 gMulS (eC (.str [110, 101, 101, 100, 115, 32])) (eC (.int n)) ρ = .ok (.cl, .str (List.replicate n NEEDS).flatten) := op2_ok (k1 := .cl) (x := .str NEEDS) rfl (k2 := .cl) (y := .int n) rfl (gMulS_ok ⟨by omega, by show 6 * n ≤ 16777216; omega⟩)
  have l : (List.replicate n NEEDS).flatten.length = n * 6 := by
    rw [List.length_flatten, List.map_replicate, List.sum_replicate_nat]
    rfl
  have a1 := addS (fa := eC (.str [115, 101, 116, 32])) (k := .cl) (x := SETS) rfl m (by rw [l]; show 4 + n * 6 ≤ 16777216; omega)
  exact addS (fl := eC (.str [97, 108, 108])) (k2 := .cl) (y := ALL) a1 rfl (by rw [List.length_append, l]; show 4 + n * 6 + 3 ≤ 16777216; omega)
theorem some_ok (ρ : Ro) : someE ρ = .ok (.fr, .lst (FX6.map D.str)) :=
  disp_ok (es := FX6.map fun x => (Kd.cl, D.str x)) (aCons_ok (needs_ok 65 (by decide) ρ) (aCons_ok (needs_ok 66 (by decide) ρ) rfl)) rfl (by show 6 ≤ 16777216; decide) rfl
theorem gMul_n (a b : Nat) (h : a < 1000) : gMulI (.int (a : Nat)) (.int (b : Nat)) = .ok (.cl, .int ((a * b : Nat) : Int)) := by
  rw [gMul_i' (by omega)]
  rfl
section
variable {S : Sl} {ds : List Nat}
theorem bent_turn {M Q so : Sl} {t : List Nat} {turn k : Nat} (hd : ds.length = 160) (ht : turn < 6) (hk : k < 3) (hp : 0 < t.length) (hl : t.length ≤ 200) (hc : cnt t ≤ 40) (z : Sl) :
    ∃ z', bentB [S, some (true, numD ds), M, some (false, .int (turn : Nat)), Q, some (false, .str t), some (false, .int (k : Nat)), z, so] = .nx [S, some (true, numD ds), M, some (false, .int (turn : Nat)), Q, some (false, .str t), some (false, .int (k : Nat)), z', so] := by
  let ρ : Ro := [S, some (true, numD ds), M, some (false, .int (turn : Nat)), Q, some (false, .str t), some (false, .int (k : Nat)), z, so]
  have m1 : op2 gMulI (eC (.int (3 : Nat))) (eVar 3) ρ = .ok (.cl, .int ((3 * turn : Nat) : Int)) := op2_ok (k1 := .cl) (x := .int (3 : Nat)) rfl (k2 := .cl) (y := .int (turn : Nat)) rfl (gMul_n 3 turn (by decide))
  have m2 : op2 gMulI (eC (.int (4 : Nat))) (eVar 6) ρ = .ok (.cl, .int ((4 * k : Nat) : Int)) := op2_ok (k1 := .cl) (x := .int (4 : Nat)) rfl (k2 := .cl) (y := .int (k : Nat)) rfl (gMul_n 4 k (by decide))
  have m3 := addN m1 m2
  have sl : eSl (eVar 1) (oSome (op2 gAdd (op2 gMulI (eC (.int 3)) (eVar 3)) (op2 gMulI (eC (.int 4)) (eVar 6)))) oNo ρ = .ok (.fr, numD (ds.drop (3 * turn + 4 * k))) := by
    have q := slFromL (ρ := ρ) (fa := eVar 1) (k := .pk) (x := (ds.map fun n : Nat => (n : Int)).map D.int) rfl m3
    refine Eq.trans q ?_
    unfold numD
    rw [List.map_drop, List.map_drop]
  obtain ⟨xs, ex, _, px⟩ := bent_ok (ds := ds.drop (3 * turn + 4 * k)) hp hl hc (by rw [List.length_drop]; omega)
  have cb : eCall (F__law_bent) 2 (aCons (eVar 5) (aCons (eSl (eVar 1) (oSome (op2 gAdd (op2 gMulI (eC (.int 3)) (eVar 3)) (op2 gMulI (eC (.int 4)) (eVar 6)))) (oNo)) (aNil))) ρ = .ok (.fr, .lst (xs.map D.str)) :=
    eCall_ok (es := [(.cl, .str t), (.fr, numD (ds.drop (3 * turn + 4 * k)))]) (aCons_ok rfl (aCons_ok sl rfl)) rfl rfl ex (noLs_strs _)
  obtain ⟨z', L⟩ := chk_loop (x0 := S) (x1 := some (true, numD ds)) (x2 := M) (x3 := some (false, .int (turn : Nat))) (x4 := Q) (x5 := some (false, .str t)) (x6 := some (false, .int (k : Nat))) (x7 := z) (x8 := so) xs px
  exact ⟨z', sFor_ok (iv_lst cb) L⟩
theorem turn_go {so : Sl} {turn : Nat} (hd : ds.length = 160) (ht : turn < 6) (ms : List Nat) (q t k z : Sl) :
    ∃ ms' q' t' k' z', turnB [S, some (true, numD ds), some (true, numD ms), some (false, .int (turn : Nat)), q, t, k, z, so] = .nx [S, some (true, numD ds), some (true, numD ms'), some (false, .int (turn : Nat)), q', t', k', z', so] := by
  obtain ⟨ms', d, x, e, A⟩ := question_ok ms
  let T : Sl := some (false, .int (turn : Nat))
  let Dd : Sl := some (true, numD ds)
  let M : Sl := some (true, numD ms')
  let Q : Sl := some (false, d)
  let X : Sl := some (false, .str x)
  have nd : noL d = true := Qs_noL A.rd
  have ap : xApp 2 0 (fun _ => true) (F__law_question) (aNil) [S, Dd, some (true, numD ms), T, q, t, k, z, so] = .ok [S, Dd, M, T, q, t, k, z, so] d := xApp_ok (es := []) rfl rfl rfl rfl rfl rfl e
  have s1 : sSetX 4 2 (xApp 2 0 (fun _ => true) (F__law_question) (aNil)) [S, Dd, some (true, numD ms), T, q, t, k, z, so] = .nx [S, Dd, M, T, Q, t, k, z, so] := by
    unfold sSetX
    rw [ap]
    rfl
  have s2 : sSet 5 (eCall (F__law_question_text) 1 (aCons (eVar 4) (aNil))) [S, Dd, M, T, Q, t, k, z, so] = .nx [S, Dd, M, T, Q, X, k, z, so] := sSet_c (callT (k := .cl) (d := d) rfl A.lt)
  let ρ : Ro := [S, Dd, M, T, Q, X, k, z, so]
  have c1 : eCall F_write_question 1 (aCons (eVar 4) aNil) ρ = .ok (.cl, .str x) := callT (k := .cl) (d := d) rfl A.wr
  have lx := A.len
  have cx := A.cn
  have lr := law_read_ok (s := x) (by omega) (by omega)
  rw [A.rd] at lr
  have c2 : eCall F__law_read 1 (aCons (eVar 5) aNil) ρ = .ok (.cl, d) := eCall_ok (es := [(.cl, .str x)]) (aCons_ok rfl rfl) rfl rfl lr nd
  have l1 : disp (fun ds => (.fr, .lst ds)) (aCons (eCall (F_write_question) 1 (aCons (eVar 4) (aNil))) (aCons (eCall (F__law_read) 1 (aCons (eVar 5) (aNil))) (aNil))) ρ = .ok (.fr, .lst [.str x, d]) := disp_ok (es := [(.cl, .str x), (.cl, d)]) (aCons_ok c1 (aCons_ok c2 rfl)) rfl (by show 2 ≤ 16777216; decide) rfl
  have g1 : op1 gInt (op2 gGt (op1 gLen (eVar 5)) (eC (.int 400))) ρ = .ok (.cl, .int ((0 : Nat) : Int)) := by
    have : op2 gGt (op1 gLen (eVar 5)) (eC (.int 400)) ρ = .ok (.cl, .bl false) := by
      refine op2_ok (lenS (k := .cl) (x := x) rfl (by omega)) (k2 := .cl) (y := .int ((400 : Nat) : Int)) rfl ?_
      rw [gGt_n, decide_eq_false (by omega)]
    exact op1_ok this rfl
  have dl : disp (fun ds => (.fr, .lst ds)) (aCons (eVar 4) (aCons (eC .non) (aNil))) ρ = .ok (.fr, .lst [d, .non]) := disp_ok (es := [(.cl, d), (.cl, .non)]) rfl rfl (by show 2 ≤ 16777216; decide) rfl
  have ix : op2 gIx (disp (fun ds => (.fr, .lst ds)) (aCons (eVar 4) (aCons (eC .non) (aNil)))) (op1 gInt (op2 gGt (op1 gLen (eVar 5)) (eC (.int 400)))) ρ = .ok (.cl, d) := op2_ok dl g1 (gIx_l (i := 0) rfl)
  have l2 : disp (fun ds => (.fr, .lst ds)) (aCons (eVar 5) (aCons (op2 gIx (disp (fun ds => (.fr, .lst ds)) (aCons (eVar 4) (aCons (eC .non) (aNil)))) (op1 gInt (op2 gGt (op1 gLen (eVar 5)) (eC (.int 400))))) (aNil))) ρ = .ok (.fr, .lst [.str x, d]) := disp_ok (es := [(.cl, .str x), (.cl, d)]) (aCons_ok rfl (aCons_ok ix rfl)) rfl (by show 2 ≤ 16777216; decide) rfl
  have sm : Smp 200 (.lst [.str x, d]) := .lst _ (by show 2 < 1000; decide) fun y hy => by
    rcases List.mem_cons.mp hy with e | hy
    · rw [e]; exact .str _
    · rw [List.mem_singleton.mp hy]; exact A.sm.mono (by decide)
  have t1 : tNotF (tVal (eCall (F__law_same 200) 2 (aCons (disp (fun ds => (.fr, .lst ds)) (aCons (eCall (F_write_question) 1 (aCons (eVar 4) (aNil))) (aCons (eCall (F__law_read) 1 (aCons (eVar 5) (aNil))) (aNil)))) (aCons (disp (fun ds => (.fr, .lst ds)) (aCons (eVar 5) (aCons (op2 gIx (disp (fun ds => (.fr, .lst ds)) (aCons (eVar 4) (aCons (eC .non) (aNil)))) (op1 gInt (op2 gGt (op1 gLen (eVar 5)) (eC (.int 400))))) (aNil)))) (aNil))))) ρ = .ok false :=
    tNot_ok (b := true) (tVal_b (eCall_ok (es := [(.fr, .lst [.str x, d]), (.fr, .lst [.str x, d])]) (aCons_ok l1 (aCons_ok l2 rfl)) rfl rfl (same_ok sm) rfl))
  obtain ⟨ρ', L, k', z', ez⟩ := for_inv (g := gNm 6) (fb := bentB) (Inv := fun ρ => ∃ k z, ρ = [S, Dd, M, T, Q, X, k, z, so]) ((List.range' 0 3).map fun k : Nat => D.int k) ρ ⟨k, z, rfl⟩ fun y hy ρ2 ⟨k2, z2, e2⟩ => by
    obtain ⟨i, hi, e⟩ := List.mem_map.mp hy
    subst e2 e
    have h3 : i < 3 := by
      obtain ⟨j, hj, e⟩ := List.mem_range'.mp hi
      omega
    obtain ⟨z3, b⟩ := bent_turn (S := S) (M := M) (Q := Q) (so := so) (t := x) (turn := turn) (k := i) hd ht h3 A.pos A.len A.cn z2
    exact ⟨_, _, rfl, b, some (false, .int (i : Nat)), z3, rfl⟩
  refine ⟨ms', Q, X, k', z', ?_⟩
  subst ez
  exact sSeq_n s1 (sSeq_n s2 (sSeq_n (ρ1 := ρ) (skip_n t1) (sFor_ok (iRng_ok (n := 3) (k := .cl) rfl (by decide)) L)))
end
theorem e_law (ns : List Int) : F_law [.rol (ns.map D.int)] = .ok (.cl, .bl true) := by
  show fnD 9 1 B_law [.rol (ns.map D.int)] = _
  rw [B_law_eq]
  let S : Sl := some (false, .rol (ns.map D.int))
  obtain ⟨z, hz⟩ := e_cell ns
  obtain ⟨ds, en, hd, _⟩ := e_numbers z 160 5040 (by decide) (by decide)
  let ρ0 : Ro := [S, none, none, none, none, none, none, none, none]
  have c0 : eCall F__law_cell 2 (aCons (eVar 0) (aCons (eC (.int 0)) aNil)) ρ0 = .ok (.cl, .int z) := eCall_ok (es := [(.cl, .rol (ns.map D.int)), (.cl, .int 0)]) rfl rfl rfl hz rfl
  have c1 : eCall F__law_numbers 3 (aCons (eCall F__law_cell 2 (aCons (eVar 0) (aCons (eC (.int 0)) aNil))) (aCons (eC (.int 160)) (aCons (eC (.int 5040)) aNil))) ρ0 = .ok (.fr, numD ds) := eCall_ok (es := [(.cl, .int z), (.cl, .int (160 : Nat)), (.cl, .int (5040 : Nat))]) (aCons_ok c0 (aCons_ok rfl (aCons_ok rfl rfl))) rfl rfl en (noLs_ints _)
  have s1 : sSet 1 (eCall F__law_numbers 3 (aCons (eCall F__law_cell 2 (aCons (eVar 0) (aCons (eC (.int 0)) aNil))) (aCons (eC (.int 160)) (aCons (eC (.int 5040)) aNil)))) ρ0 = .nx [S, some (true, numD ds), none, none, none, none, none, none, none] := sSet_f c1 (by show 1 < 9; decide)
  have sl : eSl (eVar 1) (oSome (eC (.int 40))) oNo [S, some (true, numD ds), none, none, none, none, none, none, none] = .ok (.fr, numD (ds.drop 40)) := by
    have q := slFromL (ρ := [S, some (true, numD ds), none, none, none, none, none, none, none]) (fa := eVar 1) (fl := eC (.int 40)) (k := .pk) (k2 := .cl) (x := (ds.map fun n : Nat => (n : Int)).map D.int) (n := 40) rfl rfl
    refine Eq.trans q ?_
    unfold numD
    rw [List.map_drop, List.map_drop]
  have s2 : sSet 2 (eSl (eVar 1) (oSome (eC (.int 40))) oNo) [S, some (true, numD ds), none, none, none, none, none, none, none] = .nx [S, some (true, numD ds), some (true, numD (ds.drop 40)), none, none, none, none, none, none] := sSet_f sl (by show 2 < 9; decide)
  obtain ⟨ρ', L, ms, a, q, t, k, y, ez⟩ := for_inv (g := gNm 3) (fb := turnB) (Inv := fun ρ => ∃ ms a q t k z, ρ = [S, some (true, numD ds), some (true, numD ms), a, q, t, k, z, none]) ((List.range' 0 6).map fun k : Nat => D.int k) [S, some (true, numD ds), some (true, numD (ds.drop 40)), none, none, none, none, none, none] ⟨_, _, _, _, _, _, rfl⟩ fun y hy ρ2 ⟨ms, a, q, t, k, z, e2⟩ => by
    obtain ⟨i, hi, e⟩ := List.mem_map.mp hy
    subst e2 e
    have h6 : i < 6 := by
      obtain ⟨j, hj, e⟩ := List.mem_range'.mp hi
      omega
    obtain ⟨ms', q', t', k', z', b⟩ := turn_go (S := S) (so := none) (turn := i) hd h6 ms q t k z
    exact ⟨_, _, rfl, b, ms', _, q', t', k', z', rfl⟩
  subst ez
  have f8 : sSet 8 someE [S, some (true, numD ds), some (true, numD ms), a, q, t, k, y, none] = .nx [S, some (true, numD ds), some (true, numD ms), a, q, t, k, y, some (true, .lst (FX6.map D.str))] := sSet_f (some_ok _) (by show 8 < 9; decide)
  have iv : iVal fixE [S, some (true, numD ds), some (true, numD ms), a, q, t, k, y, some (true, .lst (FX6.map D.str))] = .ok (false, (FX6 ++ FX3).map D.str) := by
    have e8 : eVar 8 [S, some (true, numD ds), some (true, numD ms), a, q, t, k, y, some (true, .lst (FX6.map D.str))] = .ok (.pk, .lst (FX6.map D.str)) := rfl
    have d3 : disp (fun ds => (.fr, .lst ds)) (aCons (eC (.str [115, 101, 116, 32, 40, 40, 97, 108, 108, 32, 98, 111, 116, 104, 32, 97, 108, 108, 41, 32, 101, 105, 116, 104, 101, 114, 32, 97, 108, 108, 41])) (aCons (eC (.str [119, 97, 121, 32, 97, 32, 98, 32, 99])) (aCons (eC (.str [99, 111, 117, 110, 116, 32, 97, 32, 98, 32, 49, 50])) (aNil)))) [S, some (true, numD ds), some (true, numD ms), a, q, t, k, y, some (true, .lst (FX6.map D.str))] = .ok (.fr, .lst (FX3.map D.str)) := rfl
    have r := op2_ok e8 d3 (gAdd_l (a := FX6.map D.str) (b := FX3.map D.str) (by rw [List.length_map, List.length_map]; show 6 + 3 ≤ 16777216; decide))
    rw [← List.map_append] at r
    exact iv_lst r
  obtain ⟨z', L2⟩ := chk_loop (x0 := S) (x1 := some (true, numD ds)) (x2 := some (true, numD ms)) (x3 := a) (x4 := q) (x5 := t) (x6 := k) (x7 := y) (x8 := some (true, .lst (FX6.map D.str))) (FX6 ++ FX3) fun x hx => by
    have := List.all_eq_true.mp fx_ok x hx
    rw [Bool.and_eq_true, decide_eq_true_eq, decide_eq_true_eq] at this
    exact this
  exact fn_ok (ρ0 := ρ0) rfl rfl (sSeq_n s1 (sSeq_n s2 (sSeq_n (sFor_ok (iRng_ok (n := 6) (k := .cl) rfl (by decide)) L) (sSeq_n f8 (sSeq_n (sFor_ok iv L2) rfl))))) rfl
end PL
set_option Elab.async false
set_option linter.all false
set_option maxRecDepth 100000
set_option maxHeartbeats 4000000
namespace PL
open PySem PySem.Spec L2
def spLaw (K : PySem.W.Frag) : Sp := fun vs H Q _ => ∃ (a : Addr) (ns : List Int), vs = [.ref a] ∧ SqL K H a (ns.map V.int) ∧ ∀ H', Q (.bl true) H'
theorem law_sp {K : PySem.W.Frag} {mg : Str → Option Value} : ∀ vs H Q E, spLaw K vs H Q E → spD K mg 1 F_law vs H Q E := fun vs H Q E ⟨a, ns, e, hS, q⟩ => by
  subst e
  refine ⟨fun _ => False, [.rol (ns.map D.int)], fun _ z => z.elim, ⟨_, [], rfl, ⟨a, ns.map V.int, rfl, ?_, RpL.of_ints ns⟩, rfl⟩, rfl, ?_⟩
  · exact Same.seq (fun b o e => hd_some.mpr ⟨fun z => z, e⟩) hS
  · rw [e_law]
    intro H' v _ r
    cases (show v = _ from r)
    exact q H'
/-- a fact on a tuple, told by its values -/
theorem ktup_mk {K : PySem.W.Frag} {d : Addr} {o : Option Addr} {its : Array Value} {n : Nat} {sl : Array (Option Value)} {ns : List (List Nat)} (q : K.lookup d = some ⟨.type "tuple", o, .seq its n, sl⟩) (z : its.size ≤ sizeLine) (v : Vals ((ns.map S).map V.str) its.toList) : KTup K d ns := ⟨_, its, n, q, rfl, rfl, z, v⟩
theorem vals_s {x : Str} {t : Tok} {a : List Nat} {ns : List (List Nat)} {us : List Value} (h : x = S a) (r : Vals ((ns.map S).map V.str) us) : Vals (((a :: ns).map S).map V.str) (.str x t :: us) := .cons ⟨t, by rw [h]⟩ r

theorem all_mk {l : PySem.W.OpenLaw} {w : World} {K : PySem.W.Frag} {h : Heap} {mg : Str → Option Value} {fa : Addr} (X : K.In h) (G : h.Ns mainGlobals mg) (hfa : mg "law" = some (.ref fa))
    {f0 : Addr} {od0 an0 : Option Addr} {sl0 : Array (Option Value)} {oc0 kV0 dc0 pm0 cd0 ct0 : Value}
    {f1 : Addr} {od1 an1 : Option Addr} {sl1 : Array (Option Value)} {oc1 kV1 dc1 pm1 cd1 ct1 : Value}
    {f2 : Addr} {od2 an2 : Option Addr} {sl2 : Array (Option Value)} {oc2 kV2 dc2 pm2 cd2 ct2 : Value}
    {f3 : Addr} {od3 an3 : Option Addr} {sl3 : Array (Option Value)} {oc3 kV3 dc3 pm3 cd3 ct3 : Value}
    {f4 : Addr} {od4 an4 : Option Addr} {sl4 : Array (Option Value)} {oc4 kV4 dc4 pm4 cd4 ct4 : Value}
    {f5 : Addr} {od5 an5 : Option Addr} {sl5 : Array (Option Value)} {oc5 kV5 dc5 pm5 cd5 ct5 : Value}
    {f6 : Addr} {od6 an6 : Option Addr} {sl6 : Array (Option Value)} {oc6 kV6 dc6 pm6 cd6 ct6 : Value}
    {f7 : Addr} {od7 an7 : Option Addr} {sl7 : Array (Option Value)} {oc7 kV7 dc7 pm7 cd7 ct7 : Value}
    {f8 : Addr} {od8 an8 : Option Addr} {sl8 : Array (Option Value)} {oc8 kV8 dc8 pm8 cd8 ct8 : Value}
    {f9 : Addr} {od9 an9 : Option Addr} {sl9 : Array (Option Value)} {oc9 kV9 dc9 pm9 cd9 ct9 : Value}
    {f10 : Addr} {od10 an10 : Option Addr} {sl10 : Array (Option Value)} {oc10 kV10 dc10 pm10 cd10 ct10 : Value}
    {f11 : Addr} {od11 an11 : Option Addr} {sl11 : Array (Option Value)} {oc11 kV11 dc11 pm11 cd11 ct11 : Value}
    {f12 : Addr} {od12 an12 : Option Addr} {sl12 : Array (Option Value)} {oc12 kV12 dc12 pm12 cd12 ct12 : Value}
    {f13 : Addr} {od13 an13 : Option Addr} {sl13 : Array (Option Value)} {oc13 kV13 dc13 pm13 cd13 ct13 : Value}
    {f14 : Addr} {od14 an14 : Option Addr} {sl14 : Array (Option Value)} {oc14 kV14 dc14 pm14 cd14 ct14 : Value}
    {f15 : Addr} {od15 an15 : Option Addr} {sl15 : Array (Option Value)} {oc15 kV15 dc15 pm15 cd15 ct15 : Value}
    {f16 : Addr} {od16 an16 : Option Addr} {sl16 : Array (Option Value)} {oc16 kV16 dc16 pm16 cd16 ct16 : Value}
    {f17 : Addr} {od17 an17 : Option Addr} {sl17 : Array (Option Value)} {oc17 kV17 dc17 pm17 cd17 ct17 : Value}
    {f18 : Addr} {od18 an18 : Option Addr} {sl18 : Array (Option Value)} {oc18 kV18 dc18 pm18 cd18 ct18 : Value}
    {f19 : Addr} {od19 an19 : Option Addr} {sl19 : Array (Option Value)} {oc19 kV19 dc19 pm19 cd19 ct19 : Value}
    {f20 : Addr} {od20 an20 : Option Addr} {sl20 : Array (Option Value)} {oc20 kV20 dc20 pm20 cd20 ct20 : Value}
    {f21 : Addr} {od21 an21 : Option Addr} {sl21 : Array (Option Value)} {oc21 kV21 dc21 pm21 cd21 ct21 : Value}
    {f22 : Addr} {od22 an22 : Option Addr} {sl22 : Array (Option Value)} {oc22 kV22 dc22 pm22 cd22 ct22 : Value}
    {f23 : Addr} {od23 an23 : Option Addr} {sl23 : Array (Option Value)} {oc23 kV23 dc23 pm23 cd23 ct23 : Value}
    {f24 : Addr} {od24 an24 : Option Addr} {sl24 : Array (Option Value)} {oc24 kV24 dc24 pm24 cd24 ct24 : Value}
    {f25 : Addr} {od25 an25 : Option Addr} {sl25 : Array (Option Value)} {oc25 kV25 dc25 pm25 cd25 ct25 : Value}
    {f26 : Addr} {od26 an26 : Option Addr} {sl26 : Array (Option Value)} {oc26 kV26 dc26 pm26 cd26 ct26 : Value}
    {f27 : Addr} {od27 an27 : Option Addr} {sl27 : Array (Option Value)} {oc27 kV27 dc27 pm27 cd27 ct27 : Value}
    {f28 : Addr} {od28 an28 : Option Addr} {sl28 : Array (Option Value)} {oc28 kV28 dc28 pm28 cd28 ct28 : Value}
    {cA_Asking : Addr} (cN_Asking : PySem.W.nsIn K mainGlobals "Asking" = some (some (.ref cA_Asking)))
    (a0 : PySem.W.nsIn K mainGlobals "are_signs" = some (some (.ref f0))) (l0 : K.lookup f0 = some ⟨oc0, od0, .func (PySem.W.fnOf "are_signs" "are_signs" (defArgs st_are_signs) (defBody st_are_signs) (defScope st_are_signs) .none kV0 dc0 pm0 an0 cd0 ct0), sl0⟩) (c0 : PySem.W.codeIn K cd0 "are_signs" = true) (k0 : PySem.W.keepIn K (.ref f0) = true)
    (a1 : PySem.W.nsIn K mainGlobals "is_path" = some (some (.ref f1))) (l1 : K.lookup f1 = some ⟨oc1, od1, .func (PySem.W.fnOf "is_path" "is_path" (defArgs st_is_path) (defBody st_is_path) (defScope st_is_path) .none kV1 dc1 pm1 an1 cd1 ct1), sl1⟩) (c1 : PySem.W.codeIn K cd1 "is_path" = true) (k1 : PySem.W.keepIn K (.ref f1) = true)
    (a2 : PySem.W.nsIn K mainGlobals "is_glob_part" = some (some (.ref f2))) (l2 : K.lookup f2 = some ⟨oc2, od2, .func (PySem.W.fnOf "is_glob_part" "is_glob_part" (defArgs st_is_glob_part) (defBody st_is_glob_part) (defScope st_is_glob_part) .none kV2 dc2 pm2 an2 cd2 ct2), sl2⟩) (c2 : PySem.W.codeIn K cd2 "is_glob_part" = true) (k2 : PySem.W.keepIn K (.ref f2) = true)
    (a3 : PySem.W.nsIn K mainGlobals "is_glob" = some (some (.ref f3))) (l3 : K.lookup f3 = some ⟨oc3, od3, .func (PySem.W.fnOf "is_glob" "is_glob" (defArgs st_is_glob) (defBody st_is_glob) (defScope st_is_glob) .none kV3 dc3 pm3 an3 cd3 ct3), sl3⟩) (c3 : PySem.W.codeIn K cd3 "is_glob" = true) (k3 : PySem.W.keepIn K (.ref f3) = true)
    (a4 : PySem.W.nsIn K mainGlobals "demand" = some (some (.ref f4))) (l4 : K.lookup f4 = some ⟨oc4, od4, .func (PySem.W.fnOf "demand" "demand" (defArgs st_demand) (defBody st_demand) (defScope st_demand) .none kV4 dc4 pm4 an4 cd4 ct4), sl4⟩) (c4 : PySem.W.codeIn K cd4 "demand" = true) (k4 : PySem.W.keepIn K (.ref f4) = true)
    (a5 : PySem.W.findIn K (.ref cA_Asking) "__init__" = some (some (.ref f5))) (i5 : PySem.W.isFn K (.ref f5) = true) (l5 : K.lookup f5 = some ⟨oc5, od5, .func (PySem.W.fnOf "__init__" "Asking.__init__" (defArgs st_Asking___init__) (defBody st_Asking___init__) (defScope st_Asking___init__) .none kV5 dc5 pm5 an5 cd5 ct5), sl5⟩) (c5 : PySem.W.codeIn K cd5 "Asking.__init__" = true) (k5 : PySem.W.keepIn K (.ref f5) = true)
    (a6 : PySem.W.findIn K (.ref cA_Asking) "token" = some (some (.ref f6))) (i6 : PySem.W.isFn K (.ref f6) = true) (l6 : K.lookup f6 = some ⟨oc6, od6, .func (PySem.W.fnOf "token" "Asking.token" (defArgs st_Asking_token) (defBody st_Asking_token) (defScope st_Asking_token) .none kV6 dc6 pm6 an6 cd6 ct6), sl6⟩) (c6 : PySem.W.codeIn K cd6 "Asking.token" = true) (k6 : PySem.W.keepIn K (.ref f6) = true)
    (a7 : PySem.W.findIn K (.ref cA_Asking) "meet" = some (some (.ref f7))) (i7 : PySem.W.isFn K (.ref f7) = true) (l7 : K.lookup f7 = some ⟨oc7, od7, .func (PySem.W.fnOf "meet" "Asking.meet" (defArgs st_Asking_meet) (defBody st_Asking_meet) (defScope st_Asking_meet) .none kV7 dc7 pm7 an7 cd7 ct7), sl7⟩) (c7 : PySem.W.codeIn K cd7 "Asking.meet" = true) (k7 : PySem.W.keepIn K (.ref f7) = true)
    (a8 : PySem.W.findIn K (.ref cA_Asking) "whole_set" = some (some (.ref f8))) (i8 : PySem.W.isFn K (.ref f8) = true) (l8 : K.lookup f8 = some ⟨oc8, od8, .func (PySem.W.fnOf "whole_set" "Asking.whole_set" (defArgs st_Asking_whole_set) (defBody st_Asking_whole_set) (defScope st_Asking_whole_set) .none kV8 dc8 pm8 an8 cd8 ct8), sl8⟩) (c8 : PySem.W.codeIn K cd8 "Asking.whole_set" = true) (k8 : PySem.W.keepIn K (.ref f8) = true)
    (a9 : PySem.W.findIn K (.ref cA_Asking) "two_sets" = some (some (.ref f9))) (i9 : PySem.W.isFn K (.ref f9) = true) (l9 : K.lookup f9 = some ⟨oc9, od9, .func (PySem.W.fnOf "two_sets" "Asking.two_sets" (defArgs st_Asking_two_sets) (defBody st_Asking_two_sets) (defScope st_Asking_two_sets) .none kV9 dc9 pm9 an9 cd9 ct9), sl9⟩) (c9 : PySem.W.codeIn K cd9 "Asking.two_sets" = true) (k9 : PySem.W.keepIn K (.ref f9) = true)
    (a10 : PySem.W.nsIn K mainGlobals "read_set" = some (some (.ref f10))) (l10 : K.lookup f10 = some ⟨oc10, od10, .func (PySem.W.fnOf "read_set" "read_set" (defArgs st_read_set) (defBody st_read_set) (defScope st_read_set) .none kV10 dc10 pm10 an10 cd10 ct10), sl10⟩) (c10 : PySem.W.codeIn K cd10 "read_set" = true) (k10 : PySem.W.keepIn K (.ref f10) = true)
    (a11 : PySem.W.nsIn K mainGlobals "number_in" = some (some (.ref f11))) (l11 : K.lookup f11 = some ⟨oc11, od11, .func (PySem.W.fnOf "number_in" "number_in" (defArgs st_number_in) (defBody st_number_in) (defScope st_number_in) .none kV11 dc11 pm11 an11 cd11 ct11), sl11⟩) (c11 : PySem.W.codeIn K cd11 "number_in" = true) (k11 : PySem.W.keepIn K (.ref f11) = true)
    (a12 : PySem.W.nsIn K mainGlobals "read_question" = some (some (.ref f12))) (l12 : K.lookup f12 = some ⟨oc12, od12, .func (PySem.W.fnOf "read_question" "read_question" (defArgs st_read_question) (defBody st_read_question) (defScope st_read_question) .none kV12 dc12 pm12 an12 cd12 ct12), sl12⟩) (c12 : PySem.W.codeIn K cd12 "read_question" = true) (k12 : PySem.W.keepIn K (.ref f12) = true)
    (a13 : PySem.W.nsIn K mainGlobals "write_set" = some (some (.ref f13))) (l13 : K.lookup f13 = some ⟨oc13, od13, .func (PySem.W.fnOf "write_set" "write_set" (defArgs st_write_set) (defBody st_write_set) (defScope st_write_set) .none kV13 dc13 pm13 an13 cd13 ct13), sl13⟩) (c13 : PySem.W.codeIn K cd13 "write_set" = true) (k13 : PySem.W.keepIn K (.ref f13) = true)
    (a14 : PySem.W.nsIn K mainGlobals "write_question" = some (some (.ref f14))) (l14 : K.lookup f14 = some ⟨oc14, od14, .func (PySem.W.fnOf "write_question" "write_question" (defArgs st_write_question) (defBody st_write_question) (defScope st_write_question) .none kV14 dc14 pm14 an14 cd14 ct14), sl14⟩) (c14 : PySem.W.codeIn K cd14 "write_question" = true) (k14 : PySem.W.keepIn K (.ref f14) = true)
    (a15 : PySem.W.nsIn K mainGlobals "_law_cell" = some (some (.ref f15))) (l15 : K.lookup f15 = some ⟨oc15, od15, .func (PySem.W.fnOf "_law_cell" "_law_cell" (defArgs st__law_cell) (defBody st__law_cell) (defScope st__law_cell) .none kV15 dc15 pm15 an15 cd15 ct15), sl15⟩) (c15 : PySem.W.codeIn K cd15 "_law_cell" = true) (k15 : PySem.W.keepIn K (.ref f15) = true)
    (a16 : PySem.W.nsIn K mainGlobals "_law_numbers" = some (some (.ref f16))) (l16 : K.lookup f16 = some ⟨oc16, od16, .func (PySem.W.fnOf "_law_numbers" "_law_numbers" (defArgs st__law_numbers) (defBody st__law_numbers) (defScope st__law_numbers) .none kV16 dc16 pm16 an16 cd16 ct16), sl16⟩) (c16 : PySem.W.codeIn K cd16 "_law_numbers" = true) (k16 : PySem.W.keepIn K (.ref f16) = true)
    (a17 : PySem.W.nsIn K mainGlobals "_law_same" = some (some (.ref f17))) (l17 : K.lookup f17 = some ⟨oc17, od17, .func (PySem.W.fnOf "_law_same" "_law_same" (defArgs st__law_same) (defBody st__law_same) (defScope st__law_same) .none kV17 dc17 pm17 an17 cd17 ct17), sl17⟩) (c17 : PySem.W.codeIn K cd17 "_law_same" = true) (k17 : PySem.W.keepIn K (.ref f17) = true)
    (a18 : PySem.W.nsIn K mainGlobals "_law_is_path" = some (some (.ref f18))) (l18 : K.lookup f18 = some ⟨oc18, od18, .func (PySem.W.fnOf "_law_is_path" "_law_is_path" (defArgs st__law_is_path) (defBody st__law_is_path) (defScope st__law_is_path) .none kV18 dc18 pm18 an18 cd18 ct18), sl18⟩) (c18 : PySem.W.codeIn K cd18 "_law_is_path" = true) (k18 : PySem.W.keepIn K (.ref f18) = true)
    (a19 : PySem.W.nsIn K mainGlobals "_law_is_glob" = some (some (.ref f19))) (l19 : K.lookup f19 = some ⟨oc19, od19, .func (PySem.W.fnOf "_law_is_glob" "_law_is_glob" (defArgs st__law_is_glob) (defBody st__law_is_glob) (defScope st__law_is_glob) .none kV19 dc19 pm19 an19 cd19 ct19), sl19⟩) (c19 : PySem.W.codeIn K cd19 "_law_is_glob" = true) (k19 : PySem.W.keepIn K (.ref f19) = true)
    (a20 : PySem.W.nsIn K mainGlobals "_law_set_drawn" = some (some (.ref f20))) (l20 : K.lookup f20 = some ⟨oc20, od20, .func (PySem.W.fnOf "_law_set_drawn" "_law_set_drawn" (defArgs st__law_set_drawn) (defBody st__law_set_drawn) (defScope st__law_set_drawn) .none kV20 dc20 pm20 an20 cd20 ct20), sl20⟩) (c20 : PySem.W.codeIn K cd20 "_law_set_drawn" = true) (k20 : PySem.W.keepIn K (.ref f20) = true)
    (a21 : PySem.W.nsIn K mainGlobals "_law_set_text" = some (some (.ref f21))) (l21 : K.lookup f21 = some ⟨oc21, od21, .func (PySem.W.fnOf "_law_set_text" "_law_set_text" (defArgs st__law_set_text) (defBody st__law_set_text) (defScope st__law_set_text) .none kV21 dc21 pm21 an21 cd21 ct21), sl21⟩) (c21 : PySem.W.codeIn K cd21 "_law_set_text" = true) (k21 : PySem.W.keepIn K (.ref f21) = true)
    (a22 : PySem.W.nsIn K mainGlobals "_law_question_text" = some (some (.ref f22))) (l22 : K.lookup f22 = some ⟨oc22, od22, .func (PySem.W.fnOf "_law_question_text" "_law_question_text" (defArgs st__law_question_text) (defBody st__law_question_text) (defScope st__law_question_text) .none kV22 dc22 pm22 an22 cd22 ct22), sl22⟩) (c22 : PySem.W.codeIn K cd22 "_law_question_text" = true) (k22 : PySem.W.keepIn K (.ref f22) = true)
    (a23 : PySem.W.nsIn K mainGlobals "_law_question" = some (some (.ref f23))) (l23 : K.lookup f23 = some ⟨oc23, od23, .func (PySem.W.fnOf "_law_question" "_law_question" (defArgs st__law_question) (defBody st__law_question) (defScope st__law_question) .none kV23 dc23 pm23 an23 cd23 ct23), sl23⟩) (c23 : PySem.W.codeIn K cd23 "_law_question" = true) (k23 : PySem.W.keepIn K (.ref f23) = true)
    (a24 : PySem.W.nsIn K mainGlobals "_law_read" = some (some (.ref f24))) (l24 : K.lookup f24 = some ⟨oc24, od24, .func (PySem.W.fnOf "_law_read" "_law_read" (defArgs st__law_read) (defBody st__law_read) (defScope st__law_read) .none kV24 dc24 pm24 an24 cd24 ct24), sl24⟩) (c24 : PySem.W.codeIn K cd24 "_law_read" = true) (k24 : PySem.W.keepIn K (.ref f24) = true)
    (a25 : PySem.W.nsIn K mainGlobals "_law_set_part" = some (some (.ref f25))) (l25 : K.lookup f25 = some ⟨oc25, od25, .func (PySem.W.fnOf "_law_set_part" "_law_set_part" (defArgs st__law_set_part) (defBody st__law_set_part) (defScope st__law_set_part) .none kV25 dc25 pm25 an25 cd25 ct25), sl25⟩) (c25 : PySem.W.codeIn K cd25 "_law_set_part" = true) (k25 : PySem.W.keepIn K (.ref f25) = true)
    (a26 : PySem.W.nsIn K mainGlobals "_law_due" = some (some (.ref f26))) (l26 : K.lookup f26 = some ⟨oc26, od26, .func (PySem.W.fnOf "_law_due" "_law_due" (defArgs st__law_due) (defBody st__law_due) (defScope st__law_due) .none kV26 dc26 pm26 an26 cd26 ct26), sl26⟩) (c26 : PySem.W.codeIn K cd26 "_law_due" = true) (k26 : PySem.W.keepIn K (.ref f26) = true)
    (a27 : PySem.W.nsIn K mainGlobals "_law_bent" = some (some (.ref f27))) (l27 : K.lookup f27 = some ⟨oc27, od27, .func (PySem.W.fnOf "_law_bent" "_law_bent" (defArgs st__law_bent) (defBody st__law_bent) (defScope st__law_bent) .none kV27 dc27 pm27 an27 cd27 ct27), sl27⟩) (c27 : PySem.W.codeIn K cd27 "_law_bent" = true) (k27 : PySem.W.keepIn K (.ref f27) = true)
    (a28 : PySem.W.nsIn K mainGlobals "law" = some (some (.ref f28))) (l28 : K.lookup f28 = some ⟨oc28, od28, .func (PySem.W.fnOf "law" "law" (defArgs st_law) (defBody st_law) (defScope st_law) .none kV28 dc28 pm28 an28 cd28 ct28), sl28⟩) (c28 : PySem.W.codeIn K cd28 "law" = true) (k28 : PySem.W.keepIn K (.ref f28) = true)
    (pg_Asking : PySem.W.plainGet K cA_Asking Str.empty = true) (hd_Asking : PySem.W.hasDictIn K cA_Asking = true) (po_Asking : PySem.W.plainOver K cA_Asking = true) (sa_Asking : PySem.W.findIn K (.ref cA_Asking) "__setattr__" = some (some (.builtin "object.__setattr__"))) (mk_Asking : PySem.W.makesIn K cA_Asking = true) (kc_Asking : PySem.W.keepIn K (.ref cA_Asking) = true)
    (nf_Asking_string : PySem.W.findIn K (.ref cA_Asking) "string" = some none)
    (nf_Asking_at : PySem.W.findIn K (.ref cA_Asking) "at" = some none)
    (z_all : PySem.W.nsIn K mainGlobals "all" = some none)
    (z_len : PySem.W.nsIn K mainGlobals "len" = some none)
    (z_int : PySem.W.nsIn K mainGlobals "int" = some none)
    (z_tuple : PySem.W.nsIn K mainGlobals "tuple" = some none)
    (z_str : PySem.W.nsIn K mainGlobals "str" = some none)
    (z_range : PySem.W.nsIn K mainGlobals "range" = some none)
    (z_isinstance : PySem.W.nsIn K mainGlobals "isinstance" = some none)
    (z_list : PySem.W.nsIn K mainGlobals "list" = some none)
    (z_bool : PySem.W.nsIn K mainGlobals "bool" = some none)
    {t_LETTERS : Tok} (z_LETTERS : PySem.W.nsIn K mainGlobals "LETTERS" = some (some (.str "abcdefghijklmnopqrstuvwxyz" t_LETTERS)))
    {t_DIGITS : Tok} (z_DIGITS : PySem.W.nsIn K mainGlobals "DIGITS" = some (some (.str "0123456789" t_DIGITS)))
    {t_SIGNS : Tok} (z_SIGNS : PySem.W.nsIn K mainGlobals "SIGNS" = some (some (.str "abcdefghijklmnopqrstuvwxyz0123456789.-" t_SIGNS)))
    {t_MOST_SIGNS : Tok} (z_MOST_SIGNS : PySem.W.nsIn K mainGlobals "MOST_SIGNS" = some (some (.int 60 t_MOST_SIGNS)))
    {t_ANY : Tok} (z_ANY : PySem.W.nsIn K mainGlobals "ANY" = some (some (.str "**" t_ANY)))
    {t_MOST_QUESTION : Tok} (z_MOST_QUESTION : PySem.W.nsIn K mainGlobals "MOST_QUESTION" = some (some (.int 400 t_MOST_QUESTION)))
    {t_MOST_NEEDS : Tok} (z_MOST_NEEDS : PySem.W.nsIn K mainGlobals "MOST_NEEDS" = some (some (.int 12 t_MOST_NEEDS)))
    {t_DECIMAL : Tok} (z_DECIMAL : PySem.W.nsIn K mainGlobals "DECIMAL" = some (some (.str "0123456789" t_DECIMAL)))
    {t_WAY : Tok} (z_WAY : PySem.W.nsIn K mainGlobals "WAY" = some (some (.str "way" t_WAY)))
    {t_SET : Tok} (z_SET : PySem.W.nsIn K mainGlobals "SET" = some (some (.str "set" t_SET)))
    {d_PLAIN_SETS : Addr} (g_PLAIN_SETS : PySem.W.nsIn K mainGlobals "PLAIN_SETS" = some (some (.ref d_PLAIN_SETS))) {o_PLAIN_SETS : Option Addr} {its_PLAIN_SETS : Array Value} {n_PLAIN_SETS : Nat} {sl_PLAIN_SETS : Array (Option Value)} (q_PLAIN_SETS : K.lookup d_PLAIN_SETS = some ⟨.type "tuple", o_PLAIN_SETS, .seq its_PLAIN_SETS n_PLAIN_SETS, sl_PLAIN_SETS⟩) (qz_PLAIN_SETS : its_PLAIN_SETS.size ≤ sizeLine) {t_PLAIN_SETS0 t_PLAIN_SETS1 t_PLAIN_SETS2 t_PLAIN_SETS3 t_PLAIN_SETS4 t_PLAIN_SETS5 t_PLAIN_SETS6 : Tok} (qv_PLAIN_SETS : its_PLAIN_SETS.toList = [.str "all" t_PLAIN_SETS0, .str "targets" t_PLAIN_SETS1, .str "sources" t_PLAIN_SETS2, .str "missing" t_PLAIN_SETS3, .str "made" t_PLAIN_SETS4, .str "bad" t_PLAIN_SETS5, .str "lists" t_PLAIN_SETS6])
    {d_LED_SETS : Addr} (g_LED_SETS : PySem.W.nsIn K mainGlobals "LED_SETS" = some (some (.ref d_LED_SETS))) {o_LED_SETS : Option Addr} {its_LED_SETS : Array Value} {n_LED_SETS : Nat} {sl_LED_SETS : Array (Option Value)} (q_LED_SETS : K.lookup d_LED_SETS = some ⟨.type "tuple", o_LED_SETS, .seq its_LED_SETS n_LED_SETS, sl_LED_SETS⟩) (qz_LED_SETS : its_LED_SETS.size ≤ sizeLine) {t_LED_SETS0 t_LED_SETS1 t_LED_SETS2 t_LED_SETS3 : Tok} (qv_LED_SETS : its_LED_SETS.toList = [.str "needs" t_LED_SETS0, .str "users" t_LED_SETS1, .str "behind" t_LED_SETS2, .str "ahead" t_LED_SETS3])
    {d_TWO_SETS : Addr} (g_TWO_SETS : PySem.W.nsIn K mainGlobals "TWO_SETS" = some (some (.ref d_TWO_SETS))) {o_TWO_SETS : Option Addr} {its_TWO_SETS : Array Value} {n_TWO_SETS : Nat} {sl_TWO_SETS : Array (Option Value)} (q_TWO_SETS : K.lookup d_TWO_SETS = some ⟨.type "tuple", o_TWO_SETS, .seq its_TWO_SETS n_TWO_SETS, sl_TWO_SETS⟩) (qz_TWO_SETS : its_TWO_SETS.size ≤ sizeLine) {t_TWO_SETS0 t_TWO_SETS1 t_TWO_SETS2 : Tok} (qv_TWO_SETS : its_TWO_SETS.toList = [.str "both" t_TWO_SETS0, .str "either" t_TWO_SETS1, .str "without" t_TWO_SETS2])
    {d_COUNTED : Addr} (g_COUNTED : PySem.W.nsIn K mainGlobals "COUNTED" = some (some (.ref d_COUNTED))) {o_COUNTED : Option Addr} {its_COUNTED : Array Value} {n_COUNTED : Nat} {sl_COUNTED : Array (Option Value)} (q_COUNTED : K.lookup d_COUNTED = some ⟨.type "tuple", o_COUNTED, .seq its_COUNTED n_COUNTED, sl_COUNTED⟩) (qz_COUNTED : its_COUNTED.size ≤ sizeLine) {t_COUNTED0 t_COUNTED1 : Tok} (qv_COUNTED : its_COUNTED.toList = [.str "ways" t_COUNTED0, .str "count" t_COUNTED1])
    {d_NAMED_SETS : Addr} (g_NAMED_SETS : PySem.W.nsIn K mainGlobals "NAMED_SETS" = some (some (.ref d_NAMED_SETS))) {es_NAMED_SETS : Array DictEntry} {en_NAMED_SETS : Nat} (q_NAMED_SETS : K.lookup d_NAMED_SETS = some ⟨.type "dict", none, .dict es_NAMED_SETS en_NAMED_SETS, #[]⟩) (qk_NAMED_SETS : PySem.W.KeysLit w.params es_NAMED_SETS.toList) (qo_NAMED_SETS : (d_NAMED_SETS == sysModules) = false) (qm_NAMED_SETS : es_NAMED_SETS.toList.map keyS = [(some ("path" : Str) : Option Str), (some ("fits" : Str) : Option Str)])
    (v_NAMED_SETS0 : PySem.W.nsIn K d_NAMED_SETS "path" = some (some (.ref f1)))
    (v_NAMED_SETS1 : PySem.W.nsIn K d_NAMED_SETS "fits" = some (some (.ref f3)))
    {C_InvalidQuestion : Addr} (gc_InvalidQuestion : PySem.W.nsIn K mainGlobals "InvalidQuestion" = some (some (.ref C_InvalidQuestion)))
    {C_BuildError : Addr} (gc_BuildError : PySem.W.nsIn K mainGlobals "BuildError" = some (some (.ref C_BuildError)))
    {C_InvalidText : Addr} (gc_InvalidText : PySem.W.nsIn K mainGlobals "InvalidText" = some (some (.ref C_InvalidText)))
    (r1_InvalidQuestion : PySem.W.keepIn K (.ref C_InvalidQuestion) = true) (r2_InvalidQuestion : PySem.W.subIn K (.ref C_InvalidQuestion) (.type "BaseException") = some true) (r3_InvalidQuestion : PySem.W.typeIn K (.ref C_InvalidQuestion) = some (.type "type")) (r4_InvalidQuestion : PySem.W.excIn K C_InvalidQuestion [.type "ValueError", .type "Exception", .type "BaseException", .type "object"] "ValueError.__new__" = true)
    (s1_InvalidQuestion : PySem.W.subIn K (.ref C_InvalidQuestion) (.ref C_InvalidQuestion) = some true) (s2_InvalidQuestion : PySem.W.isClsIn K C_InvalidQuestion = true) (s3_InvalidQuestion : PySem.W.findIn K (.ref C_InvalidQuestion) "__getattribute__" = some (some (.builtin "BaseException.__getattribute__"))) {gt_InvalidQuestion : Option Value} (s4_InvalidQuestion : PySem.W.findIn K (.ref C_InvalidQuestion) "__getattr__" = some gt_InvalidQuestion)
    (s5_InvalidQuestion : PySem.W.findIn K (.ref C_InvalidQuestion) "__class__" = some (some (.builtin "object.__class__"))) (s6_InvalidQuestion : PySem.W.specialIn K (.builtin "object.__class__") "__get__" = some (some (.builtin "getset_descriptor.__get__"))) (s7_InvalidQuestion : PySem.W.takesIn K (.builtin "object.__class__") = some true) (s8_InvalidQuestion : PySem.W.mroIn K C_InvalidQuestion (.type "object") = some true)
    (y1_InvalidQuestion : PySem.W.subIn K (.ref C_InvalidQuestion) (.ref C_BuildError) = some true) (y2_InvalidQuestion : PySem.W.isClsIn K C_BuildError = true) (y3_InvalidQuestion : PySem.W.typeIn K (.ref C_BuildError) = some (.type "type")) (z1_InvalidQuestion : PySem.W.subIn K (.ref C_InvalidQuestion) (.ref C_InvalidText) = some false) (z2_InvalidQuestion : PySem.W.isClsIn K C_InvalidText = true) (z3_InvalidQuestion : PySem.W.typeIn K (.ref C_InvalidText) = some (.type "type"))
    : ∃ fd : FuncData, (∀ (s : Shared) (v : Value), BindsTo s fd ⟨[v], []⟩ [("script", v)]) ∧ ∀ base : Heap, K.In base → base.Ns mainGlobals mg → FnOk l.prog w K mg base (L2.CX l.prog w) (228 + 1) fa fd ["script"] (spLaw K) := by
  have e := hfa.symm.trans (PySem.W.mg_of X G a28)
  cases e
  have F0 := fun_mk (st := st_are_signs) l0 c0 k0
  have B0 := F0.binds (ps := ["string", "signs"]) fun _ _ _ _ _ _ us hl => match us, hl with | [_, _], _ => rfl
  have F1 := fun_mk (st := st_is_path) l1 c1 k1
  have B1 := F1.binds (ps := ["string"]) fun _ _ _ _ _ _ us hl => match us, hl with | [_], _ => rfl
  have F2 := fun_mk (st := st_is_glob_part) l2 c2 k2
  have B2 := F2.binds (ps := ["part"]) fun _ _ _ _ _ _ us hl => match us, hl with | [_], _ => rfl
  have F3 := fun_mk (st := st_is_glob) l3 c3 k3
  have B3 := F3.binds (ps := ["string"]) fun _ _ _ _ _ _ us hl => match us, hl with | [_], _ => rfl
  have F4 := fun_mk (st := st_demand) l4 c4 k4
  have B4 := F4.binds (ps := ["good"]) fun _ _ _ _ _ _ us hl => match us, hl with | [_], _ => rfl
  have F5 := fun_mk (st := st_Asking___init__) l5 c5 k5
  have B5 := F5.binds (ps := ["self", "string"]) fun _ _ _ _ _ _ us hl => match us, hl with | [_, _], _ => rfl
  have F6 := fun_mk (st := st_Asking_token) l6 c6 k6
  have B6 := F6.binds (ps := ["self"]) fun _ _ _ _ _ _ us hl => match us, hl with | [_], _ => rfl
  have F7 := fun_mk (st := st_Asking_meet) l7 c7 k7
  have B7 := F7.binds (ps := ["self", "sign"]) fun _ _ _ _ _ _ us hl => match us, hl with | [_, _], _ => rfl
  have F8 := fun_mk (st := st_Asking_whole_set) l8 c8 k8
  have B8 := F8.binds (ps := ["self"]) fun _ _ _ _ _ _ us hl => match us, hl with | [_], _ => rfl
  have F9 := fun_mk (st := st_Asking_two_sets) l9 c9 k9
  have B9 := F9.binds (ps := ["self"]) fun _ _ _ _ _ _ us hl => match us, hl with | [_], _ => rfl
  have F10 := fun_mk (st := st_read_set) l10 c10 k10
  have B10 := F10.binds (ps := ["string"]) fun _ _ _ _ _ _ us hl => match us, hl with | [_], _ => rfl
  have F11 := fun_mk (st := st_number_in) l11 c11 k11
  have B11 := F11.binds (ps := ["word"]) fun _ _ _ _ _ _ us hl => match us, hl with | [_], _ => rfl
  have F12 := fun_mk (st := st_read_question) l12 c12 k12
  have B12 := F12.binds (ps := ["string"]) fun _ _ _ _ _ _ us hl => match us, hl with | [_], _ => rfl
  have F13 := fun_mk (st := st_write_set) l13 c13 k13
  have B13 := F13.binds (ps := ["question"]) fun _ _ _ _ _ _ us hl => match us, hl with | [_], _ => rfl
  have F14 := fun_mk (st := st_write_question) l14 c14 k14
  have B14 := F14.binds (ps := ["question"]) fun _ _ _ _ _ _ us hl => match us, hl with | [_], _ => rfl
  have F15 := fun_mk (st := st__law_cell) l15 c15 k15
  have B15 := F15.binds (ps := ["script", "k"]) fun _ _ _ _ _ _ us hl => match us, hl with | [_, _], _ => rfl
  have F16 := fun_mk (st := st__law_numbers) l16 c16 k16
  have B16 := F16.binds (ps := ["cell", "count", "limit"]) fun _ _ _ _ _ _ us hl => match us, hl with | [_, _, _], _ => rfl
  have F17 := fun_mk (st := st__law_same) l17 c17 k17
  have B17 := F17.binds (ps := ["told", "due"]) fun _ _ _ _ _ _ us hl => match us, hl with | [_, _], _ => rfl
  have F18 := fun_mk (st := st__law_is_path) l18 c18 k18
  have B18 := F18.binds (ps := ["text"]) fun _ _ _ _ _ _ us hl => match us, hl with | [_], _ => rfl
  have F19 := fun_mk (st := st__law_is_glob) l19 c19 k19
  have B19 := F19.binds (ps := ["text"]) fun _ _ _ _ _ _ us hl => match us, hl with | [_], _ => rfl
  have F20 := fun_mk (st := st__law_set_drawn) l20 c20 k20
  have B20 := F20.binds (ps := ["draws", "depth"]) fun _ _ _ _ _ _ us hl => match us, hl with | [_, _], _ => rfl
  have F21 := fun_mk (st := st__law_set_text) l21 c21 k21
  have B21 := F21.binds (ps := ["question"]) fun _ _ _ _ _ _ us hl => match us, hl with | [_], _ => rfl
  have F22 := fun_mk (st := st__law_question_text) l22 c22 k22
  have B22 := F22.binds (ps := ["question"]) fun _ _ _ _ _ _ us hl => match us, hl with | [_], _ => rfl
  have F23 := fun_mk (st := st__law_question) l23 c23 k23
  have B23 := F23.binds (ps := ["draws"]) fun _ _ _ _ _ _ us hl => match us, hl with | [_], _ => rfl
  have F24 := fun_mk (st := st__law_read) l24 c24 k24
  have B24 := F24.binds (ps := ["string"]) fun _ _ _ _ _ _ us hl => match us, hl with | [_], _ => rfl
  have F25 := fun_mk (st := st__law_set_part) l25 c25 k25
  have B25 := F25.binds (ps := ["words", "at"]) fun _ _ _ _ _ _ us hl => match us, hl with | [_, _], _ => rfl
  have F26 := fun_mk (st := st__law_due) l26 c26 k26
  have B26 := F26.binds (ps := ["string"]) fun _ _ _ _ _ _ us hl => match us, hl with | [_], _ => rfl
  have F27 := fun_mk (st := st__law_bent) l27 c27 k27
  have B27 := F27.binds (ps := ["text", "draws"]) fun _ _ _ _ _ _ us hl => match us, hl with | [_, _], _ => rfl
  have F28 := fun_mk (st := st_law) l28 c28 k28
  have B28 := F28.binds (ps := ["script"]) fun _ _ _ _ _ _ us hl => match us, hl with | [_], _ => rfl
  let T : Top w K mg := {
    a_are_signs := f0, d_are_signs := _, f_are_signs := F0, b_are_signs := B0, g_are_signs := PySem.W.mg_of X G a0,
    a_is_path := f1, d_is_path := _, f_is_path := F1, b_is_path := B1, g_is_path := PySem.W.mg_of X G a1,
    a_is_glob_part := f2, d_is_glob_part := _, f_is_glob_part := F2, b_is_glob_part := B2, g_is_glob_part := PySem.W.mg_of X G a2,
    a_is_glob := f3, d_is_glob := _, f_is_glob := F3, b_is_glob := B3, g_is_glob := PySem.W.mg_of X G a3,
    a_demand := f4, d_demand := _, f_demand := F4, b_demand := B4, g_demand := PySem.W.mg_of X G a4,
    a_Asking___init__ := f5, d_Asking___init__ := _, f_Asking___init__ := F5, b_Asking___init__ := B5,
    a_Asking_token := f6, d_Asking_token := _, f_Asking_token := F6, b_Asking_token := B6,
    a_Asking_meet := f7, d_Asking_meet := _, f_Asking_meet := F7, b_Asking_meet := B7,
    a_Asking_whole_set := f8, d_Asking_whole_set := _, f_Asking_whole_set := F8, b_Asking_whole_set := B8,
    a_Asking_two_sets := f9, d_Asking_two_sets := _, f_Asking_two_sets := F9, b_Asking_two_sets := B9,
    a_read_set := f10, d_read_set := _, f_read_set := F10, b_read_set := B10, g_read_set := PySem.W.mg_of X G a10,
    a_number_in := f11, d_number_in := _, f_number_in := F11, b_number_in := B11, g_number_in := PySem.W.mg_of X G a11,
    a_read_question := f12, d_read_question := _, f_read_question := F12, b_read_question := B12, g_read_question := PySem.W.mg_of X G a12,
    a_write_set := f13, d_write_set := _, f_write_set := F13, b_write_set := B13, g_write_set := PySem.W.mg_of X G a13,
    a_write_question := f14, d_write_question := _, f_write_question := F14, b_write_question := B14, g_write_question := PySem.W.mg_of X G a14,
    a__law_cell := f15, d__law_cell := _, f__law_cell := F15, b__law_cell := B15, g__law_cell := PySem.W.mg_of X G a15,
    a__law_numbers := f16, d__law_numbers := _, f__law_numbers := F16, b__law_numbers := B16, g__law_numbers := PySem.W.mg_of X G a16,
    a__law_same := f17, d__law_same := _, f__law_same := F17, b__law_same := B17, g__law_same := PySem.W.mg_of X G a17,
    a__law_is_path := f18, d__law_is_path := _, f__law_is_path := F18, b__law_is_path := B18, g__law_is_path := PySem.W.mg_of X G a18,
    a__law_is_glob := f19, d__law_is_glob := _, f__law_is_glob := F19, b__law_is_glob := B19, g__law_is_glob := PySem.W.mg_of X G a19,
    a__law_set_drawn := f20, d__law_set_drawn := _, f__law_set_drawn := F20, b__law_set_drawn := B20, g__law_set_drawn := PySem.W.mg_of X G a20,
    a__law_set_text := f21, d__law_set_text := _, f__law_set_text := F21, b__law_set_text := B21, g__law_set_text := PySem.W.mg_of X G a21,
    a__law_question_text := f22, d__law_question_text := _, f__law_question_text := F22, b__law_question_text := B22, g__law_question_text := PySem.W.mg_of X G a22,
    a__law_question := f23, d__law_question := _, f__law_question := F23, b__law_question := B23, g__law_question := PySem.W.mg_of X G a23,
    a__law_read := f24, d__law_read := _, f__law_read := F24, b__law_read := B24, g__law_read := PySem.W.mg_of X G a24,
    a__law_set_part := f25, d__law_set_part := _, f__law_set_part := F25, b__law_set_part := B25, g__law_set_part := PySem.W.mg_of X G a25,
    a__law_due := f26, d__law_due := _, f__law_due := F26, b__law_due := B26, g__law_due := PySem.W.mg_of X G a26,
    a__law_bent := f27, d__law_bent := _, f__law_bent := F27, b__law_bent := B27, g__law_bent := PySem.W.mg_of X G a27,
    a_law := fa, d_law := _, f_law := F28, b_law := B28, g_law := PySem.W.mg_of X G a28,
    cA_Asking := cA_Asking, cN_Asking := cN_Asking, cG_Asking := PySem.W.mg_of X G cN_Asking, cC_Asking := ⟨pg_Asking, hd_Asking, po_Asking, sa_Asking⟩, cM_Asking := ⟨mk_Asking, a5, i5, kc_Asking⟩, cF_Asking_string := nf_Asking_string, cF_Asking_at := nf_Asking_at, cm_Asking_token := ⟨a6, i6, k6⟩, cm_Asking_meet := ⟨a7, i7, k7⟩, cm_Asking_whole_set := ⟨a8, i8, k8⟩, cm_Asking_two_sets := ⟨a9, i9, k9⟩,
    z_all := PySem.W.mg_none_of X G z_all,
    z_len := PySem.W.mg_none_of X G z_len,
    z_int := PySem.W.mg_none_of X G z_int,
    z_tuple := PySem.W.mg_none_of X G z_tuple,
    z_str := PySem.W.mg_none_of X G z_str,
    z_range := PySem.W.mg_none_of X G z_range,
    z_isinstance := PySem.W.mg_none_of X G z_isinstance,
    z_list := PySem.W.mg_none_of X G z_list,
    z_bool := PySem.W.mg_none_of X G z_bool,
    c_LETTERS := ⟨_, PySem.W.mg_of X G z_LETTERS⟩,
    c_DIGITS := ⟨_, PySem.W.mg_of X G z_DIGITS⟩,
    c_SIGNS := ⟨_, PySem.W.mg_of X G z_SIGNS⟩,
    c_MOST_SIGNS := ⟨_, PySem.W.mg_of X G z_MOST_SIGNS⟩,
    c_ANY := ⟨_, PySem.W.mg_of X G z_ANY⟩,
    c_MOST_QUESTION := ⟨_, PySem.W.mg_of X G z_MOST_QUESTION⟩,
    c_MOST_NEEDS := ⟨_, PySem.W.mg_of X G z_MOST_NEEDS⟩,
    c_DECIMAL := ⟨_, PySem.W.mg_of X G z_DECIMAL⟩,
    c_WAY := ⟨_, PySem.W.mg_of X G z_WAY⟩,
    c_SET := ⟨_, PySem.W.mg_of X G z_SET⟩,
    d_PLAIN_SETS := d_PLAIN_SETS, g_PLAIN_SETS := PySem.W.mg_of X G g_PLAIN_SETS, t_PLAIN_SETS := ktup_mk q_PLAIN_SETS qz_PLAIN_SETS (by rw [qv_PLAIN_SETS]; exact vals_s (by decide +kernel) (vals_s (by decide +kernel) (vals_s (by decide +kernel) (vals_s (by decide +kernel) (vals_s (by decide +kernel) (vals_s (by decide +kernel) (vals_s (by decide +kernel) (Paired.nil)))))))),
    d_LED_SETS := d_LED_SETS, g_LED_SETS := PySem.W.mg_of X G g_LED_SETS, t_LED_SETS := ktup_mk q_LED_SETS qz_LED_SETS (by rw [qv_LED_SETS]; exact vals_s (by decide +kernel) (vals_s (by decide +kernel) (vals_s (by decide +kernel) (vals_s (by decide +kernel) (Paired.nil))))),
    d_TWO_SETS := d_TWO_SETS, g_TWO_SETS := PySem.W.mg_of X G g_TWO_SETS, t_TWO_SETS := ktup_mk q_TWO_SETS qz_TWO_SETS (by rw [qv_TWO_SETS]; exact vals_s (by decide +kernel) (vals_s (by decide +kernel) (vals_s (by decide +kernel) (Paired.nil)))),
    d_COUNTED := d_COUNTED, g_COUNTED := PySem.W.mg_of X G g_COUNTED, t_COUNTED := ktup_mk q_COUNTED qz_COUNTED (by rw [qv_COUNTED]; exact vals_s (by decide +kernel) (vals_s (by decide +kernel) (Paired.nil))),
    d_NAMED_SETS := d_NAMED_SETS, g_NAMED_SETS := PySem.W.mg_of X G g_NAMED_SETS, kf_NAMED_SETS := ⟨⟨_, _, ⟨q_NAMED_SETS, qk_NAMED_SETS, qo_NAMED_SETS⟩, qm_NAMED_SETS⟩, fun p hp => by
      simp only [List.mem_cons, List.not_mem_nil, or_false] at hp
      rcases hp with rfl | rfl
      · exact v_NAMED_SETS0
      · exact v_NAMED_SETS1⟩,
    k_InvalidQuestion := ⟨C_InvalidQuestion, PySem.W.mg_of X G gc_InvalidQuestion, r1_InvalidQuestion, r2_InvalidQuestion, r3_InvalidQuestion⟩, x_InvalidQuestion := r4_InvalidQuestion,
    e_InvalidQuestion := exm_self r2_InvalidQuestion s2_InvalidQuestion r3_InvalidQuestion s1_InvalidQuestion, i_InvalidQuestion := ⟨s2_InvalidQuestion, s3_InvalidQuestion, ⟨_, s4_InvalidQuestion⟩, r2_InvalidQuestion, s5_InvalidQuestion, s6_InvalidQuestion, s7_InvalidQuestion, s8_InvalidQuestion⟩, C_BuildError := C_BuildError, m_BuildError := PySem.W.mg_of X G gc_BuildError, C_InvalidText := C_InvalidText, m_InvalidText := PySem.W.mg_of X G gc_InvalidText, y_InvalidQuestion := kit_sub s1_InvalidQuestion y1_InvalidQuestion y2_InvalidQuestion y3_InvalidQuestion, n_InvalidQuestion := kit_sub s1_InvalidQuestion z1_InvalidQuestion z2_InvalidQuestion z3_InvalidQuestion }
  exact ⟨PySem.W.fnOf "law" "law" (defArgs st_law) (defBody st_law) (defScope st_law) .none kV28 dc28 pm28 an28 cd28 ct28, fun s v => .of_eq rfl, fun base _ _ => FnOk.imp (ok_law T) (law_sp (mg := mg))⟩
end PL
open PySem PySem.W PyProof.Rows
set_option maxHeartbeats 0 in
theorem PySem.Challenge.cw_asifanew_k81_questions_as_texts_holds : PySem.Challenge.rw_asifanew_k81_questions_as_texts.Holds := by
  w_on; o_law; k_head; (case hw => w_witness2)
  k_fill
  refine L2.walk_of (l := PySem.Challenge.rw_asifanew_k81_questions_as_texts) (n := 63) (k := 228 + 1) (x := "script") (CX := fun w => L2.CX PySem.Challenge.rw_asifanew_k81_questions_as_texts.prog w) (sp := fun w => PL.spLaw _) rfl (by decide) rfl ⟨rfl, by decide, by decide⟩ (fun w h Y => PySem.W.kIn_of Y) ?F (fun _ _ a ns hl _ hS => ⟨a, ns, rfl, hS, fun _ => rfl⟩) (fun _ _ _ _ _ h => by
    obtain ⟨_, _, _, _, _, _, _, _, _, _, _, _, z⟩ := h
    exact z)
  case F =>
    intro w mg fa h KX G hmg
    refine' PL.all_mk KX G hmg ?cN_Asking ?a0 ?l0 ?c0 ?k0 ?a1 ?l1 ?c1 ?k1 ?a2 ?l2 ?c2 ?k2 ?a3 ?l3 ?c3 ?k3 ?a4 ?l4 ?c4 ?k4 ?a5 ?i5 ?l5 ?c5 ?k5 ?a6 ?i6 ?l6 ?c6 ?k6 ?a7 ?i7 ?l7 ?c7 ?k7 ?a8 ?i8 ?l8 ?c8 ?k8 ?a9 ?i9 ?l9 ?c9 ?k9 ?a10 ?l10 ?c10 ?k10 ?a11 ?l11 ?c11 ?k11 ?a12 ?l12 ?c12 ?k12 ?a13 ?l13 ?c13 ?k13 ?a14 ?l14 ?c14 ?k14 ?a15 ?l15 ?c15 ?k15 ?a16 ?l16 ?c16 ?k16 ?a17 ?l17 ?c17 ?k17 ?a18 ?l18 ?c18 ?k18 ?a19 ?l19 ?c19 ?k19 ?a20 ?l20 ?c20 ?k20 ?a21 ?l21 ?c21 ?k21 ?a22 ?l22 ?c22 ?k22 ?a23 ?l23 ?c23 ?k23 ?a24 ?l24 ?c24 ?k24 ?a25 ?l25 ?c25 ?k25 ?a26 ?l26 ?c26 ?k26 ?a27 ?l27 ?c27 ?k27 ?a28 ?l28 ?c28 ?k28 ?pg_Asking ?hd_Asking ?po_Asking ?sa_Asking ?mk_Asking ?kc_Asking ?nf_Asking_string ?nf_Asking_at ?z_all ?z_len ?z_int ?z_tuple ?z_str ?z_range ?z_isinstance ?z_list ?z_bool ?z_LETTERS ?z_DIGITS ?z_SIGNS ?z_MOST_SIGNS ?z_ANY ?z_MOST_QUESTION ?z_MOST_NEEDS ?z_DECIMAL ?z_WAY ?z_SET ?g_PLAIN_SETS ?q_PLAIN_SETS ?qz_PLAIN_SETS ?qv_PLAIN_SETS ?g_LED_SETS ?q_LED_SETS ?qz_LED_SETS ?qv_LED_SETS ?g_TWO_SETS ?q_TWO_SETS ?qz_TWO_SETS ?qv_TWO_SETS ?g_COUNTED ?q_COUNTED ?qz_COUNTED ?qv_COUNTED ?g_NAMED_SETS ?q_NAMED_SETS ?qk_NAMED_SETS ?qo_NAMED_SETS ?qm_NAMED_SETS ?v_NAMED_SETS0 ?v_NAMED_SETS1 ?gc_InvalidQuestion ?gc_BuildError ?gc_InvalidText ?r1_InvalidQuestion ?r2_InvalidQuestion ?r3_InvalidQuestion ?r4_InvalidQuestion ?s1_InvalidQuestion ?s2_InvalidQuestion ?s3_InvalidQuestion ?s4_InvalidQuestion ?s5_InvalidQuestion ?s6_InvalidQuestion ?s7_InvalidQuestion ?s8_InvalidQuestion ?y1_InvalidQuestion ?y2_InvalidQuestion ?y3_InvalidQuestion ?z1_InvalidQuestion ?z2_InvalidQuestion ?z3_InvalidQuestion
    (case cN_Asking => k_is)
    (case a0 => k_is)
    (case l0 => k_is)
    (case c0 => k_is)
    (case k0 => k_is)
    (case a1 => k_is)
    (case l1 => k_is)
    (case c1 => k_is)
    (case k1 => k_is)
    (case a2 => k_is)
    (case l2 => k_is)
    (case c2 => k_is)
    (case k2 => k_is)
    (case a3 => k_is)
    (case l3 => k_is)
    (case c3 => k_is)
    (case k3 => k_is)
    (case a4 => k_is)
    (case l4 => k_is)
    (case c4 => k_is)
    (case k4 => k_is)
    (case a5 => k_is)
    (case i5 => k_is)
    (case l5 => k_is)
    (case c5 => k_is)
    (case k5 => k_is)
    (case a6 => k_is)
    (case i6 => k_is)
    (case l6 => k_is)
    (case c6 => k_is)
    (case k6 => k_is)
    (case a7 => k_is)
    (case i7 => k_is)
    (case l7 => k_is)
    (case c7 => k_is)
    (case k7 => k_is)
    (case a8 => k_is)
    (case i8 => k_is)
    (case l8 => k_is)
    (case c8 => k_is)
    (case k8 => k_is)
    (case a9 => k_is)
    (case i9 => k_is)
    (case l9 => k_is)
    (case c9 => k_is)
    (case k9 => k_is)
    (case a10 => k_is)
    (case l10 => k_is)
    (case c10 => k_is)
    (case k10 => k_is)
    (case a11 => k_is)
    (case l11 => k_is)
    (case c11 => k_is)
    (case k11 => k_is)
    (case a12 => k_is)
    (case l12 => k_is)
    (case c12 => k_is)
    (case k12 => k_is)
    (case a13 => k_is)
    (case l13 => k_is)
    (case c13 => k_is)
    (case k13 => k_is)
    (case a14 => k_is)
    (case l14 => k_is)
    (case c14 => k_is)
    (case k14 => k_is)
    (case a15 => k_is)
    (case l15 => k_is)
    (case c15 => k_is)
    (case k15 => k_is)
    (case a16 => k_is)
    (case l16 => k_is)
    (case c16 => k_is)
    (case k16 => k_is)
    (case a17 => k_is)
    (case l17 => k_is)
    (case c17 => k_is)
    (case k17 => k_is)
    (case a18 => k_is)
    (case l18 => k_is)
    (case c18 => k_is)
    (case k18 => k_is)
    (case a19 => k_is)
    (case l19 => k_is)
    (case c19 => k_is)
    (case k19 => k_is)
    (case a20 => k_is)
    (case l20 => k_is)
    (case c20 => k_is)
    (case k20 => k_is)
    (case a21 => k_is)
    (case l21 => k_is)
    (case c21 => k_is)
    (case k21 => k_is)
    (case a22 => k_is)
    (case l22 => k_is)
    (case c22 => k_is)
    (case k22 => k_is)
    (case a23 => k_is)
    (case l23 => k_is)
    (case c23 => k_is)
    (case k23 => k_is)
    (case a24 => k_is)
    (case l24 => k_is)
    (case c24 => k_is)
    (case k24 => k_is)
    (case a25 => k_is)
    (case l25 => k_is)
    (case c25 => k_is)
    (case k25 => k_is)
    (case a26 => k_is)
    (case l26 => k_is)
    (case c26 => k_is)
    (case k26 => k_is)
    (case a27 => k_is)
    (case l27 => k_is)
    (case c27 => k_is)
    (case k27 => k_is)
    (case a28 => k_is)
    (case l28 => k_is)
    (case c28 => k_is)
    (case k28 => k_is)
    (case pg_Asking => k_is)
    (case hd_Asking => k_is)
    (case po_Asking => k_is)
    (case sa_Asking => k_is)
    (case mk_Asking => k_is)
    (case kc_Asking => k_is)
    (case nf_Asking_string => k_is)
    (case nf_Asking_at => k_is)
    (case z_all => k_is)
    (case z_len => k_is)
    (case z_int => k_is)
    (case z_tuple => k_is)
    (case z_str => k_is)
    (case z_range => k_is)
    (case z_isinstance => k_is)
    (case z_list => k_is)
    (case z_bool => k_is)
    (case z_LETTERS => k_is)
    (case z_DIGITS => k_is)
    (case z_SIGNS => k_is)
    (case z_MOST_SIGNS => k_is)
    (case z_ANY => k_is)
    (case z_MOST_QUESTION => k_is)
    (case z_MOST_NEEDS => k_is)
    (case z_DECIMAL => k_is)
    (case z_WAY => k_is)
    (case z_SET => k_is)
    (case g_PLAIN_SETS => k_is)
    (case q_PLAIN_SETS => k_is)
    (case qz_PLAIN_SETS => decide)
    (case qv_PLAIN_SETS => rfl)
    (case g_LED_SETS => k_is)
    (case q_LED_SETS => k_is)
    (case qz_LED_SETS => decide)
    (case qv_LED_SETS => rfl)
    (case g_TWO_SETS => k_is)
    (case q_TWO_SETS => k_is)
    (case qz_TWO_SETS => decide)
    (case qv_TWO_SETS => rfl)
    (case g_COUNTED => k_is)
    (case q_COUNTED => k_is)
    (case qz_COUNTED => decide)
    (case qv_COUNTED => rfl)
    (case g_NAMED_SETS => k_is)
    (case q_NAMED_SETS => k_is)
    (case qk_NAMED_SETS => k_keys)
    (case qo_NAMED_SETS => decide)
    (case qm_NAMED_SETS => rfl)
    (case v_NAMED_SETS0 => k_is)
    (case v_NAMED_SETS1 => k_is)
    (case gc_InvalidQuestion => k_is)
    (case gc_BuildError => k_is)
    (case gc_InvalidText => k_is)
    (case r1_InvalidQuestion => k_is)
    (case r2_InvalidQuestion => k_is)
    (case r3_InvalidQuestion => k_is)
    (case r4_InvalidQuestion => k_exc)
    (case s1_InvalidQuestion => first | rfl | k_is)
    (case s2_InvalidQuestion => k_is)
    (case s3_InvalidQuestion => k_is)
    (case s4_InvalidQuestion => k_is)
    (case s5_InvalidQuestion => k_is)
    (case s6_InvalidQuestion => k_is)
    (case s7_InvalidQuestion => k_is)
    (case s8_InvalidQuestion => k_is)
    (case y1_InvalidQuestion => k_is)
    (case y2_InvalidQuestion => k_is)
    (case y3_InvalidQuestion => k_is)
    (case z1_InvalidQuestion => k_is)
    (case z2_InvalidQuestion => k_is)
    (case z3_InvalidQuestion => k_is)
