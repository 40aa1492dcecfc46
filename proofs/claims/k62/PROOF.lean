import PyProof.Rows.All
import Wide.All
import OpenK.AllK
import Wide.FinOn
import HandS.ForMost
import HandS.ForExc
import HandS.FStr
import HandS.IsInst
import HandS.Style
import HandS.Flow
import HandS.StrMore
import HandS.TupAny
import KE.GoesMore
import PyProof.EnumMake
import HandS.ReplaceLit
import HandS.ReplaceList
import HandS.ReplaceDef
import PyProof.StrOps2
import PySem.Challenge.RW_asifanew_k62_whole_journals_and_their_re
set_option Elab.async false
set_option linter.all false
set_option maxRecDepth 100000
set_option maxHeartbeats 4000000
/-! PL1: a layer of pure data over the hand layer: data D, what stands for them in the heap, lifted readings. -/
namespace PL
open PySem PySem.Spec L2

/-- pure data: texts are lists of code points; lst: a list that stands in the heap by itself; rol: a list that is only read -/
inductive D where
  | non | bl (b : Bool) | int (i : Int) | str (x : List Nat) | tup (xs : List D) | lst (xs : List D) | rol (xs : List D)
/-- how a value was come by: only looked at, to be kept, newly made (a list that nobody else holds) -/
inductive Kd where
  | pk | cl | fr
  deriving DecidableEq
inductive R (α : Type) where
  | ok (a : α) | exc (c : Str) | bad
namespace R
def bind {α β : Type} : R α → (α → R β) → R β
  | .ok a, f => f a
  | .exc c, _ => .exc c
  | .bad, _ => .bad
def map {α β : Type} (r : R α) (f : α → β) : R β := r.bind fun a => .ok (f a)
/-- where nothing may be raised -/
def calm {α : Type} : R α → R α
  | .ok a => .ok a
  | _ => .bad
@[simp] theorem bind_ok {α β : Type} (a : α) (f : α → R β) : (R.ok a).bind f = f a := rfl
@[simp] theorem bind_exc {α β : Type} (c : Str) (f : α → R β) : (R.exc c : R α).bind f = .exc c := rfl
@[simp] theorem bind_bad {α β : Type} (f : α → R β) : (R.bad : R α).bind f = .bad := rfl
@[simp] theorem map_ok {α β : Type} (a : α) (f : α → β) : (R.ok a).map f = .ok (f a) := rfl
@[simp] theorem map_exc {α β : Type} (c : Str) (f : α → β) : (R.exc c : R α).map f = .exc c := rfl
@[simp] theorem map_bad {α β : Type} (f : α → β) : (R.bad : R α).map f = .bad := rfl
@[simp] theorem calm_ok {α : Type} (a : α) : (R.ok a).calm = .ok a := rfl
end R
abbrev Ev := Kd × D
abbrev Sl := Option (Bool × D)
abbrev Ro := List Sl
abbrev EF := Ro → R Ev
abbrev TF := Ro → R Bool
abbrev AF := Ro → R (List Ev)

def S (a : List Nat) : Str := ⟨a.toArray⟩
theorem S_len (a : List Nat) : (S a).length = a.length := by simp [S, Str.length]
theorem S_cps (a : List Nat) : (S a).cps.toList = a := by simp [S]
theorem S_inj {a b : List Nat} (h : S a = S b) : a = b := by
  have := congrArg (fun z => z.cps.toList) h
  simpa [S] using this
theorem S_app (a b : List Nat) : S a ++ S b = S (a ++ b) := by
  show (⟨(S a).cps ++ (S b).cps⟩ : Str) = _
  simp [S]
theorem S_of (x : Str) : S x.cps.toList = x := by cases x; simp [S]

/-! ### what stands for data -/
mutual
def Rp (K : PySem.W.Frag) (H : Hp) : D → V → Prop
  | .non, v => v = .non
  | .bl b, v => v = .bl b
  | .int i, v => v = .int i
  | .str x, v => v = .str (S x)
  | .tup xs, v => ∃ a vs, v = .ref a ∧ SqT K H a vs ∧ RpL K H xs vs
  | .lst xs, v => ∃ a vs, v = .ref a ∧ H a = some (.lst vs) ∧ RpL K H xs vs
  | .rol xs, v => ∃ a vs, v = .ref a ∧ SqL K H a vs ∧ RpL K H xs vs
def RpL (K : PySem.W.Frag) (H : Hp) : List D → List V → Prop
  | [], vs => vs = []
  | x :: xs, vs => ∃ v r, vs = v :: r ∧ Rp K H x v ∧ RpL K H xs r
end

theorem same_seqT {K : PySem.W.Frag} {H H' : Hp} {a : Addr} {xs : List V} (e : Same H H') (h : SqT K H a xs) : SqT K H' a xs := by
  rcases h with (h | ⟨o, h⟩) | h
  · exact .inl (.inl (e _ _ h))
  · exact .inl (.inr ⟨o, e _ _ h⟩)
  · exact .inr h

mutual
theorem Rp.mono {K : PySem.W.Frag} {H H' : Hp} (e : Same H H') : ∀ (d : D) (v : V), Rp K H d v → Rp K H' d v
  | .non, _, h => h
  | .bl _, _, h => h
  | .int _, _, h => h
  | .str _, _, h => h
  | .tup xs, _, ⟨a, vs, h1, h2, h3⟩ => ⟨a, vs, h1, same_seqT e h2, RpL.mono e xs vs h3⟩
  | .lst xs, _, ⟨a, vs, h1, h2, h3⟩ => ⟨a, vs, h1, e _ _ h2, RpL.mono e xs vs h3⟩
  | .rol xs, _, ⟨a, vs, h1, h2, h3⟩ => ⟨a, vs, h1, e.seq h2, RpL.mono e xs vs h3⟩
theorem RpL.mono {K : PySem.W.Frag} {H H' : Hp} (e : Same H H') : ∀ (ds : List D) (vs : List V), RpL K H ds vs → RpL K H' ds vs
  | [], _, h => h
  | d :: ds, _, ⟨v, r, h1, h2, h3⟩ => ⟨v, r, h1, Rp.mono e d v h2, RpL.mono e ds r h3⟩
end
section
variable {K : PySem.W.Frag} {H H' : Hp}
theorem RpL.len : ∀ {ds : List D} {vs : List V}, RpL K H ds vs → vs.length = ds.length
  | [], _, h => by rw [show _ = _ from h]; rfl
  | _ :: ds, _, ⟨v, r, h1, _, h3⟩ => by rw [h1, List.length_cons, List.length_cons, RpL.len h3]
theorem RpL.get : ∀ {ds : List D} {vs : List V} {i : Nat} {d : D}, RpL K H ds vs → ds[i]? = some d → ∃ v, vs[i]? = some v ∧ Rp K H d v
  | [], _, _, _, _, h => by simp at h
  | _ :: ds, _, 0, d, ⟨v, r, h1, h2, _⟩, h => by
    simp at h; subst h; subst h1; exact ⟨v, rfl, h2⟩
  | _ :: ds, _, i + 1, d, ⟨v, r, h1, _, h3⟩, h => by
    obtain ⟨w, e1, e2⟩ := RpL.get (i := i) h3 (by simpa using h)
    subst h1; exact ⟨w, by simpa using e1, e2⟩
theorem RpL.app : ∀ {ds es : List D} {vs ws : List V}, RpL K H ds vs → RpL K H es ws → RpL K H (ds ++ es) (vs ++ ws)
  | [], _, _, _, h, k => by rw [show _ = _ from h]; exact k
  | _ :: ds, _, _, _, ⟨v, r, h1, h2, h3⟩, k => ⟨v, r ++ _, by rw [h1]; rfl, h2, RpL.app h3 k⟩
theorem RpL.one {d : D} {v : V} (h : Rp K H d v) : RpL K H [d] [v] := ⟨v, [], rfl, h, rfl⟩
theorem RpL.take (n : Nat) : ∀ {ds : List D} {vs : List V}, RpL K H ds vs → RpL K H (ds.take n) (vs.take n) := by
  induction n with
  | zero => intro ds vs _; rfl
  | succ n ih =>
    intro ds vs h
    cases ds with
    | nil => rw [show vs = _ from h]; rfl
    | cons d ds => obtain ⟨v, r, h1, h2, h3⟩ := h; subst h1; exact ⟨v, _, rfl, h2, ih h3⟩
theorem RpL.drop (n : Nat) : ∀ {ds : List D} {vs : List V}, RpL K H ds vs → RpL K H (ds.drop n) (vs.drop n) := by
  induction n with
  | zero => intro ds vs h; exact h
  | succ n ih =>
    intro ds vs h
    cases ds with
    | nil => rw [show vs = _ from h]; rfl
    | cons d ds => obtain ⟨v, r, h1, h2, h3⟩ := h; subst h1; exact ih h3
theorem RpL.set {d : D} {v : V} (q : Rp K H d v) : ∀ {ds : List D} {vs : List V} (i : Nat), RpL K H ds vs → RpL K H (ds.set i d) (vs.set i v)
  | [], _, _, h => by rw [show _ = _ from h]; rfl
  | _ :: ds, _, 0, ⟨w, r, h1, _, h3⟩ => by subst h1; exact ⟨v, r, rfl, q, h3⟩
  | _ :: ds, _, i + 1, ⟨w, r, h1, h2, h3⟩ => by subst h1; exact ⟨w, _, rfl, h2, RpL.set q i h3⟩
theorem RpL.rev : ∀ {ds : List D} {vs : List V}, RpL K H ds vs → RpL K H ds.reverse vs.reverse
  | [], _, h => by rw [show _ = _ from h]; rfl
  | _ :: ds, _, ⟨v, r, h1, h2, h3⟩ => by
    subst h1
    rw [List.reverse_cons, List.reverse_cons]
    exact RpL.app (RpL.rev h3) (RpL.one h2)
theorem RpL.ints : ∀ {ns : List Int} {vs : List V}, RpL K H (ns.map D.int) vs → vs = ns.map V.int
  | [], _, h => h
  | n :: ns, _, ⟨v, r, h1, h2, h3⟩ => by
    have e : v = V.int n := h2
    rw [h1, e, RpL.ints h3]; rfl
theorem RpL.of_ints : ∀ (ns : List Int), RpL K H (ns.map D.int) (ns.map V.int)
  | [] => rfl
  | n :: ns => ⟨_, _, rfl, rfl, RpL.of_ints ns⟩
theorem RpL.bls : ∀ {ns : List Bool} {vs : List V}, RpL K H (ns.map D.bl) vs → vs = ns.map V.bl
  | [], _, h => h
  | n :: ns, _, ⟨v, r, h1, h2, h3⟩ => by
    have e : v = V.bl n := h2
    rw [h1, e, RpL.bls h3]; rfl
theorem RpL.strs : ∀ {ns : List (List Nat)} {vs : List V}, RpL K H (ns.map D.str) vs → vs = (ns.map S).map V.str
  | [], _, h => h
  | n :: ns, _, ⟨v, r, h1, h2, h3⟩ => by
    have e : v = V.str (S n) := h2
    rw [h1, e, RpL.strs h3]; rfl
theorem RpL.of_strs : ∀ (ns : List (List Nat)), RpL K H (ns.map D.str) ((ns.map S).map V.str)
  | [] => rfl
  | n :: ns => ⟨_, _, rfl, rfl, RpL.of_strs ns⟩
end

/-! ### parts of the heap that are not to be seen -/
open Classical in
noncomputable def hd (H : Hp) (P : Addr → Prop) : Hp := fun b => if P b then none else H b
theorem hd_some {H : Hp} {P : Addr → Prop} {b : Addr} {o : HO} : hd H P b = some o ↔ ¬ P b ∧ H b = some o := by
  unfold hd
  by_cases h : P b
  · rw [if_pos h]; exact ⟨fun e => (nomatch e), fun e => absurd h e.1⟩
  · rw [if_neg h]; exact ⟨fun e => ⟨h, e⟩, fun e => e.2⟩
theorem hd_le {H : Hp} {P : Addr → Prop} : Same (hd H P) H := fun _ _ h => (hd_some.mp h).2
theorem hd_mono {H H' : Hp} {P P' : Addr → Prop} (h : ∀ b o, H b = some o → ¬ P b → H' b = some o ∧ ¬ P' b) : Same (hd H P) (hd H' P') := fun b o e => by
  obtain ⟨e1, e2⟩ := hd_some.mp e
  obtain ⟨e3, e4⟩ := h b o e2 e1
  exact hd_some.mpr ⟨e4, e3⟩
theorem hd_same {H H' : Hp} {P : Addr → Prop} (s : Same H H') : Same (hd H P) (hd H' P) := hd_mono fun b o e n => ⟨s b o e, n⟩
abbrev Own := Nat → Option Addr
def ob (hid : Addr → Prop) (own : Own) (b : Addr) : Prop := hid b ∨ ∃ i, own i = some b
abbrev noOwn : Own := fun _ => none
theorem ob_no {hid : Addr → Prop} {b : Addr} : ob hid noOwn b ↔ hid b := ⟨fun h => h.elim (fun z => z) (fun ⟨_, e⟩ => (nomatch e)), fun h => Or.inl h⟩
theorem hd_ob_hid {H : Hp} {hid : Addr → Prop} {own : Own} : Same (hd H (ob hid own)) (hd H hid) := hd_mono fun _ _ e n => ⟨e, fun z => n (.inl z)⟩
theorem hd_no {H : Hp} {hid : Addr → Prop} : Same (hd H hid) (hd H (ob hid noOwn)) := hd_mono fun _ _ e n => ⟨e, fun z => n (ob_no.mp z)⟩

/-- an object of the call's own, its parts to be seen in Hc -/
def MR (K : PySem.W.Frag) (Hc : Hp) (o : Option HO) : D → Prop
  | .lst ds => ∃ vs, o = some (.lst vs) ∧ RpL K Hc ds vs
  | _ => False
/-- a value that is looked at: a list may be one of the call's own, what it holds is to be seen -/
def RT (K : PySem.W.Frag) (hid : Addr → Prop) (own : Own) (H : Hp) : D → V → Prop
  | .lst ds, v => ∃ a vs, v = .ref a ∧ hd H hid a = some (.lst vs) ∧ RpL K (hd H (ob hid own)) ds vs
  | d, v => Rp K (hd H (ob hid own)) d v
def RV (K : PySem.W.Frag) (hid : Addr → Prop) (own : Own) (H H' : Hp) : Kd → D → V → Prop
  | .pk, d, v => RT K hid own H' d v
  | .cl, d, v => Rp K (hd H' (ob hid own)) d v
  | .fr, d, v => ∃ a, v = .ref a ∧ H a = none ∧ ¬ ob hid own a ∧ MR K (hd H' fun b => ob hid own b ∨ b = a) (H' a) d
structure SR (K : PySem.W.Frag) (hid : Addr → Prop) (own : Own) (H : Hp) (ρ : Ro) (σ : St) : Prop where
  len : ρ.length = σ.length
  val : ∀ (i : Nat) (d : D), ρ[i]? = some (some (false, d)) → ∃ v, σ[i]? = some (some v) ∧ Rp K (hd H (ob hid own)) d v
  ow : ∀ (i : Nat) (d : D), ρ[i]? = some (some (true, d)) → ∃ a, own i = some a ∧ σ[i]? = some (some (.ref a)) ∧ MR K (hd H (ob hid own)) (H a) d
  inj : ∀ (i j : Nat) (a : Addr), own i = some a → own j = some a → i = j
  oh : ∀ (i : Nat) (a : Addr), own i = some a → ¬ hid a ∧ (∃ xs, H a = some (.lst xs)) ∧ ∃ d, ρ[i]? = some (some (true, d))
  hin : ∀ b, hid b → H b ≠ none

section
variable {K : PySem.W.Frag} {hid : Addr → Prop} {own : Own} {H H1 H2 H' : Hp} {ρ : Ro} {σ : St}
theorem MR.mono {Hc Hc' : Hp} {o : Option HO} : ∀ {d : D}, Same Hc Hc' → MR K Hc o d → MR K Hc' o d
  | .lst _, s, ⟨vs, e, r⟩ => ⟨vs, e, RpL.mono s _ _ r⟩
  | .non, _, h => h.elim
  | .bl _, _, h => h.elim
  | .int _, _, h => h.elim
  | .str _, _, h => h.elim
  | .tup _, _, h => h.elim
  | .rol _, _, h => h.elim
theorem RT.mono (s : Same H H') : ∀ {d : D} {v : V}, RT K hid own H d v → RT K hid own H' d v
  | .lst _, _, ⟨a, vs, h1, h2, h3⟩ => ⟨a, vs, h1, hd_same s _ _ h2, RpL.mono (hd_same s) _ _ h3⟩
  | .non, _, h => h
  | .bl _, _, h => h
  | .int _, _, h => h
  | .str _, _, h => h
  | .tup _, v, h => Rp.mono (hd_same s) _ _ h
  | .rol _, v, h => Rp.mono (hd_same s) _ _ h
theorem RT.of_cl : ∀ {d : D} {v : V}, Rp K (hd H (ob hid own)) d v → RT K hid own H d v
  | .lst _, _, ⟨a, vs, h1, h2, h3⟩ => ⟨a, vs, h1, hd_ob_hid _ _ h2, h3⟩
  | .non, _, h => h
  | .bl _, _, h => h
  | .int _, _, h => h
  | .str _, _, h => h
  | .tup _, v, h => h
  | .rol _, v, h => h
/-- is it a list? -/
def isL : D → Bool
  | .lst _ => true
  | _ => false
theorem RT.cl : ∀ {d : D} {v : V}, isL d = false → RT K hid own H d v → Rp K (hd H (ob hid own)) d v
  | .lst _, _, n, _ => nomatch n
  | .non, _, _, h => h
  | .bl _, _, _, h => h
  | .int _, _, _, h => h
  | .str _, _, _, h => h
  | .tup _, v, _, h => h
  | .rol _, v, _, h => h
/-- what is looked at, in the heap without what the callers hide -/
theorem RT.rp : ∀ {d : D} {v : V}, RT K hid own H d v → Rp K (hd H hid) d v
  | .lst _, _, ⟨a, vs, h1, h2, h3⟩ => ⟨a, vs, h1, h2, RpL.mono hd_ob_hid _ _ h3⟩
  | .non, _, h => h
  | .bl _, _, h => h
  | .int _, _, h => h
  | .str _, _, h => h
  | .tup _, v, h => Rp.mono hd_ob_hid _ _ h
  | .rol _, v, h => Rp.mono hd_ob_hid _ _ h
theorem RV.fr_cl {a : Addr} {d : D} (ha : ¬ ob hid own a) (h : MR K (hd H' fun b => ob hid own b ∨ b = a) (H' a) d) : Rp K (hd H' (ob hid own)) d (.ref a) := by
  cases d with
  | lst ds =>
    obtain ⟨vs, e, r⟩ := h
    exact ⟨a, vs, rfl, hd_some.mpr ⟨ha, e⟩, RpL.mono (hd_mono fun b o e n => ⟨e, fun z => n (.inl z)⟩) _ _ r⟩
  | _ => exact h.elim
theorem RV.rt : ∀ {k : Kd} {d : D} {v : V}, RV K hid own H H' k d v → RT K hid own H' d v
  | .pk, _, _, h => h
  | .cl, _, _, h => RT.of_cl h
  | .fr, _, _, ⟨a, e, _, ha, m⟩ => by rw [e]; exact RT.of_cl (RV.fr_cl ha m)
/-- may it be kept? -/
def okE : Ev → Bool
  | (.pk, d) => !isL d
  | _ => true
theorem RV.clean : ∀ {k : Kd} {d : D} {v : V}, okE (k, d) = true → RV K hid own H H' k d v → Rp K (hd H' (ob hid own)) d v
  | .pk, d, _, o, h => RT.cl (by have o : (!isL d) = true := o; simpa using o) h
  | .cl, _, _, _, h => h
  | .fr, _, _, _, ⟨a, e, _, ha, m⟩ => by rw [e]; exact RV.fr_cl ha m
theorem RV.base (s : Same H H1) : ∀ {k : Kd} {d : D} {v : V}, RV K hid own H1 H' k d v → RV K hid own H H' k d v
  | .pk, _, _, h => h
  | .cl, _, _, h => h
  | .fr, _, _, ⟨a, e, n, m⟩ => ⟨a, e, s.free n, m⟩
theorem SR.mono (s : Same H H') (h : SR K hid own H ρ σ) : SR K hid own H' ρ σ where
  len := h.len
  val := fun i d e => let ⟨v, e1, e2⟩ := h.val i d e; ⟨v, e1, Rp.mono (hd_same s) _ _ e2⟩
  ow := fun i d e => by
    obtain ⟨a, e1, e2, e3⟩ := h.ow i d e
    refine ⟨a, e1, e2, ?_⟩
    obtain ⟨_, ⟨xs, e4⟩, _⟩ := h.oh i a e1
    rw [s _ _ e4, ← e4]
    exact e3.mono (hd_same s)
  inj := h.inj
  oh := fun i a e => let ⟨h1, ⟨xs, h2⟩, h3⟩ := h.oh i a e; ⟨h1, ⟨xs, s _ _ h2⟩, h3⟩
  hin := fun b hb z => h.hin b hb (s.free z)
/-- what is not to be seen stands in the heap -/
theorem SR.dom (h : SR K hid own H ρ σ) : ∀ b, ob hid own b → H b ≠ none
  | b, .inl z => h.hin b z
  | b, .inr ⟨i, e⟩ => by
    obtain ⟨_, ⟨xs, h2⟩, _⟩ := h.oh i b e
    rw [h2]; exact fun z => nomatch z
theorem SR.vis (h : SR K hid own H ρ σ) {p : Addr} (n : H p = none) : ¬ ob hid own p := fun z => h.dom p z n
end

/-! ### readings -/
theorem imp_pe {X : Cx} {e : Expr} {t t' : TE} (h : PE X e t) (k : ∀ σ H Q, t' σ H Q → t σ H Q) : PE X e t' := ⟨fun pins s σ H Q I q => h.run pins s σ H Q I (k _ _ _ q)⟩
theorem imp_pt {X : Cx} {e : Expr} {t t' : TT} (h : PT X e t) (k : ∀ σ H Q, t' σ H Q → t σ H Q) : PT X e t' := ⟨fun pins s σ H Q I q => h.run pins s σ H Q I (k _ _ _ q)⟩
theorem imp_pw {X : Cx} {e : Expr} {t t' : TT} (h : PW X e t) (k : ∀ σ H Q, t' σ H Q → t σ H Q) : PW X e t' := ⟨fun wh pins s σ H Q I q => h.run wh pins s σ H Q I (k _ _ _ q)⟩
theorem imp_pa {X : Cx} {e : List Expr} {t t' : TA} (h : PA X e t) (k : ∀ σ H Q, t' σ H Q → t σ H Q) : PA X e t' := ⟨fun pos pins s σ H Q I q => h.run pos pins s σ H Q I (k _ _ _ q)⟩
theorem imp_ps {X : Cx} {e : Stmt} {t t' : TS} (h : PS X e t) (k : ∀ D σ H, t' D σ H → t D σ H) : PS X e t' := ⟨fun pins s σ H D I q => h.run pins s σ H D I (k _ _ _ q)⟩
theorem imp_pss {X : Cx} {e : List Stmt} {t t' : TS} (h : PSs X e t) (k : ∀ D σ H, t' D σ H → t D σ H) : PSs X e t' := ⟨fun pins s σ H D I q => h.run pins s σ H D I (k _ _ _ q)⟩

/-- how an exception of the class c is wished for -/
abbrev Wc (mg : Str → Option Value) (W : WX) (σ : St) (c : Str) (H : Hp) : Prop := ∀ C, mg c = some (.ref C) → W (.ref C) none σ H
def Post (K : PySem.W.Frag) (hid : Addr → Prop) (own : Own) (H : Hp) (Wx : Str → Hp → Prop) (r : R Ev) (Q : VK) : Prop :=
  match r with
  | .ok e => ∀ H' v, Same H H' → RV K hid own H H' e.1 e.2 v → Q v H'
  | .exc c => ∀ H', Same H H' → Wx c H'
  | .bad => False
def PostT (H : Hp) (Wx : Str → Hp → Prop) (r : R Bool) (Q : Bool → Hp → Prop) : Prop :=
  match r with
  | .ok b => ∀ H', Same H H' → Q b H'
  | .exc c => ∀ H', Same H H' → Wx c H'
  | .bad => False
def RVs (K : PySem.W.Frag) (hid : Addr → Prop) (own : Own) (H H' : Hp) : List Ev → List V → Prop
  | [], vs => vs = []
  | e :: es, vs => ∃ v r, vs = v :: r ∧ RV K hid own H H' e.1 e.2 v ∧ RVs K hid own H H' es r
def PostA (K : PySem.W.Frag) (hid : Addr → Prop) (own : Own) (H : Hp) (Wx : Str → Hp → Prop) (r : R (List Ev)) (Q : List V → Hp → Prop) : Prop :=
  match r with
  | .ok es => ∀ H' vs, Same H H' → (∀ b, ob hid own b → H' b ≠ none) → RVs K hid own H H' es vs → Q vs H'
  | .exc c => ∀ H', Same H H' → Wx c H'
  | .bad => False
def tE (K : PySem.W.Frag) (mg : Str → Option Value) (W : WX) (f : EF) : TE := fun σ H Q => ∃ hid own ρ, SR K hid own H ρ σ ∧ Post K hid own H (Wc mg W σ) (f ρ) Q
def tT (K : PySem.W.Frag) (mg : Str → Option Value) (W : WX) (f : TF) : TT := fun σ H Q => ∃ hid own ρ, SR K hid own H ρ σ ∧ PostT H (Wc mg W σ) (f ρ) Q
def tA (K : PySem.W.Frag) (mg : Str → Option Value) (W : WX) (f : AF) : TA := fun σ H Q => ∃ hid own ρ, SR K hid own H ρ σ ∧ PostA K hid own H (Wc mg W σ) (f ρ) Q
abbrev DE (X : Cx) (W : WX) (e : Expr) (f : EF) : Prop := PE X e (tE X.K X.mg W f)
abbrev DT (X : Cx) (W : WX) (e : Expr) (f : TF) : Prop := PT X e (tT X.K X.mg W f)
abbrev DW (X : Cx) (W : WX) (e : Expr) (f : TF) : Prop := PW X e (tT X.K X.mg W f)
abbrev DA (X : Cx) (W : WX) (e : List Expr) (f : AF) : Prop := PA X e (tA X.K X.mg W f)

section
variable {K : PySem.W.Frag} {hid : Addr → Prop} {own : Own} {H H1 H2 H' : Hp} {ρ : Ro} {σ : St} {Wx : Str → Hp → Prop}
theorem Post.mono {r : R Ev} {Q : VK} (s : Same H H1) (h : Post K hid own H Wx r Q) : Post K hid own H1 Wx r Q := by
  cases r with
  | ok e => exact fun H' v s' q => h H' v (s.trans s') (q.base s)
  | exc c => exact fun H' s' => h H' (s.trans s')
  | bad => exact h
theorem PostT.mono {r : R Bool} {Q : Bool → Hp → Prop} (s : Same H H1) (h : PostT H Wx r Q) : PostT H1 Wx r Q := by
  cases r with
  | ok e => exact fun H' s' => h H' (s.trans s')
  | exc c => exact fun H' s' => h H' (s.trans s')
  | bad => exact h
theorem RVs.base (s : Same H H1) : ∀ {es : List Ev} {vs : List V}, RVs K hid own H1 H' es vs → RVs K hid own H H' es vs
  | [], _, h => h
  | _ :: _, _, ⟨v, r, e, a, b⟩ => ⟨v, r, e, a.base s, RVs.base s b⟩
theorem PostA.mono {r : R (List Ev)} {Q : List V → Hp → Prop} (s : Same H H1) (h : PostA K hid own H Wx r Q) : PostA K hid own H1 Wx r Q := by
  cases r with
  | ok e => exact fun H' vs s' d q => h H' vs (s.trans s') d (q.base s)
  | exc c => exact fun H' s' => h H' (s.trans s')
  | bad => exact h
/-- one part's reading from the whole's -/
theorem Post.part {r : R Ev} {g : Ev → R Ev} {Q T : VK} (h : Post K hid own H Wx (r.bind g) Q)
    (k : ∀ e H1 v, Same H H1 → RV K hid own H H1 e.1 e.2 v → Post K hid own H1 Wx (g e) Q → T v H1) : Post K hid own H Wx r T := by
  cases r with
  | ok e => exact fun H1 v s q => k e H1 v s q (Post.mono s h)
  | exc c => exact h
  | bad => exact h
theorem PostT.part {r : R Bool} {g : Bool → R Bool} {Q T : Bool → Hp → Prop} (h : PostT H Wx (r.bind g) Q)
    (k : ∀ e H1, Same H H1 → PostT H1 Wx (g e) Q → T e H1) : PostT H Wx r T := by
  cases r with
  | ok e => exact fun H1 s => k e H1 s (PostT.mono s h)
  | exc c => exact h
  | bad => exact h
theorem PostT.partE {r : R Ev} {g : Ev → R Bool} {Q : Bool → Hp → Prop} {T : VK} (h : PostT H Wx (r.bind g) Q)
    (k : ∀ e H1 v, Same H H1 → RV K hid own H H1 e.1 e.2 v → PostT H1 Wx (g e) Q → T v H1) : Post K hid own H Wx r T := by
  cases r with
  | ok e => exact fun H1 v s q => k e H1 v s q (PostT.mono s h)
  | exc c => exact h
  | bad => exact h
theorem Post.partT {r : R Bool} {g : Bool → R Ev} {Q : VK} {T : Bool → Hp → Prop} (h : Post K hid own H Wx (r.bind g) Q)
    (k : ∀ e H1, Same H H1 → Post K hid own H1 Wx (g e) Q → T e H1) : PostT H Wx r T := by
  cases r with
  | ok e => exact fun H1 s => k e H1 s (Post.mono s h)
  | exc c => exact h
  | bad => exact h
end
end PL
set_option Elab.async false
set_option linter.all false
set_option maxRecDepth 100000
set_option maxHeartbeats 4000000
/-! PL2: the rules of expressions over pure data. -/
namespace PL
open PySem PySem.Spec L2

section
variable {K : PySem.W.Frag} {hid : Addr → Prop} {own : Own} {H H1 H2 H' : Hp} {ρ : Ro} {σ : L2.St} {Wx : Str → Hp → Prop} {Q : VK}
theorem Post.now {d : D} {v : V} (h : Post K hid own H Wx (.ok (.cl, d)) Q) (r : Rp K (hd H (ob hid own)) d v) : Q v H := h H v (Same.refl H) r
theorem Post.nowT {d : D} {v : V} (h : Post K hid own H Wx (.ok (.pk, d)) Q) (r : RT K hid own H d v) : Q v H := h H v (Same.refl H) r
theorem sameUpd {H : Hp} {p : Addr} {o : HO} (h : H p = none) : Same H (upd H p o) := fun b x e => by
  rw [upd_ne (ne_of_none e h)]; exact e
theorem Post.newL {p : Addr} {ds : List D} {vs : List V} (h : Post K hid own H Wx (.ok (.fr, .lst ds)) Q) (np : H p = none) (nb : ¬ ob hid own p) (r : RpL K (hd H (ob hid own)) ds vs) : Q (.ref p) (upd H p (.lst vs)) := by
  refine h _ _ (sameUpd np) ⟨p, rfl, np, nb, vs, upd_same, RpL.mono (hd_mono fun b o e n => ?_) _ _ r⟩
  have hb : b ≠ p := ne_of_none e np
  exact ⟨by rw [upd_ne hb]; exact e, fun z => z.elim n hb⟩
theorem Post.newT {p : Addr} {ds : List D} {vs : List V} (h : Post K hid own H Wx (.ok (.cl, .tup ds)) Q) (np : H p = none) (nb : ¬ ob hid own p) (r : RpL K (hd H (ob hid own)) ds vs) : Q (.ref p) (upd H p (.tup vs)) := by
  refine h _ _ (sameUpd np) ⟨p, vs, rfl, .inl (.inl (hd_some.mpr ⟨nb, upd_same⟩)), RpL.mono (hd_same (sameUpd np)) _ _ r⟩
end

/-! ### names and constants -/
def eVar (i : Nat) : EF := fun ρ => match ρ[i]? with
  | some (some (true, d)) => .ok (.pk, d)
  | some (some (false, d)) => .ok (.cl, d)
  | _ => .bad
def eC (d : D) : EF := fun _ => .ok (.cl, d)
section
variable {X : Cx} {W : WX}
theorem own_rt {K : PySem.W.Frag} {hid : Addr → Prop} {own : Own} {H : Hp} {ρ : Ro} {σ : L2.St} (hS : SR K hid own H ρ σ) {i : Nat} {d : D} (e : ρ[i]? = some (some (true, d))) : ∃ v, σ[i]? = some (some v) ∧ RT K hid own H d v := by
  obtain ⟨a, e1, e2, e3⟩ := hS.ow i d e
  refine ⟨_, e2, ?_⟩
  cases d with
  | lst ds =>
    obtain ⟨vs, e4, e5⟩ := e3
    exact ⟨a, vs, rfl, hd_some.mpr ⟨(hS.oh i a e1).1, e4⟩, e5⟩
  | _ => exact e3.elim
theorem de_var (i : Nat) {x : Str} {pos : Pos} (h : PE X (.Name x pos) (tVar i)) : DE X W (.Name x pos) (eVar i) := by
  refine imp_pe h fun σ H Q ⟨hid, own, ρ, hS, q⟩ => ?_
  unfold eVar at q
  split at q
  · rename_i d e
    obtain ⟨v, e1, e2⟩ := own_rt hS e
    exact ⟨v, e1, q.nowT e2⟩
  · rename_i d e
    obtain ⟨v, e1, e2⟩ := hS.val i d e
    exact ⟨v, e1, q.now e2⟩
  · exact q.elim
theorem de_c {e : Expr} {v : V} (d : D) (h : PE X e (tC v)) (r : ∀ H : Hp, Rp X.K H d v) : DE X W e (eC d) :=
  imp_pe h fun σ H Q ⟨hid, own, ρ, hS, q⟩ => q.now (r _)
theorem de_int {i : Int} {j pos} : DE X W (.Constant (.int i) j pos) (eC (.int i)) := de_c _ pe_int fun _ => rfl
theorem de_bl {i : Bool} {j pos} : DE X W (.Constant (.bool i) j pos) (eC (.bl i)) := de_c _ pe_bl fun _ => rfl
theorem de_non {j pos} : DE X W (.Constant .none j pos) (eC .non) := de_c _ pe_non fun _ => rfl
theorem de_str {x : Str} (a : List Nat) {j pos} (h : x = S a := by decide +kernel) : DE X W (.Constant (.str x) j pos) (eC (.str a)) := de_c _ pe_str fun _ => by rw [h]; rfl
theorem de_gint {x : Str} {i : Int} {t : Tok} {pos : Pos} (hg : Gl X x) (hm : X.mg x = some (.int i t)) (hd : (x == ("__debug__" : Str)) = false := by decide) : DE X W (.Name x pos) (eC (.int i)) := de_c _ (pe_glob (v := .int i) hg hm ⟨t, rfl⟩ hd) fun _ => rfl
theorem de_gstr {x y : Str} {t : Tok} (a : List Nat) {pos : Pos} (hg : Gl X x) (hm : X.mg x = some (.str y t)) (h : y = S a := by decide +kernel) (hd : (x == ("__debug__" : Str)) = false := by decide) : DE X W (.Name x pos) (eC (.str a)) := de_c _ (pe_glob (v := .str y) hg hm ⟨t, rfl⟩ hd) fun _ => by rw [h]; rfl
end

/-! ### operators -/
def op2 (g : D → D → R Ev) (fa fb : EF) : EF := fun ρ => (fa ρ).bind fun x => (fb ρ).bind fun y => g x.2 y.2
def op1 (g : D → R Ev) (fa : EF) : EF := fun ρ => (fa ρ).bind fun x => g x.2
def OpG (K : PySem.W.Frag) (r : R2) (g : D → D → R Ev) : Prop := ∀ {hid own H Wx x y dx dy Q}, (∀ b, ob hid own b → H b ≠ none) → RT K hid own H dx x → RT K hid own H dy y → Post K hid own H Wx (g dx dy) Q → r x y H Q
section
variable {X : Cx} {W : WX} {a b : Expr} {fa fb : EF} {r : R2} {g : D → D → R Ev} {pos : Pos}
theorem two (hg : OpG X.K r g) : ∀ σ H Q, tE X.K X.mg W (op2 g fa fb) σ H Q → tOp r (tE X.K X.mg W fa) (tE X.K X.mg W fb) σ H Q := fun σ H Q ⟨hid, own, ρ, hS, h⟩ =>
  ⟨hid, own, ρ, hS, Post.part h fun e1 H1 x s1 r1 h1 => ⟨hid, own, ρ, hS.mono s1, Post.part h1 fun e2 H2 y s2 r2 h2 => hg ((hS.mono s1).mono s2).dom (r1.rt.mono s2) r2.rt h2⟩⟩
theorem de_op {op : Operator} (ho : OpR X (binaryOp op) r) (hg : OpG X.K r g) (ha : DE X W a fa) (hb : DE X W b fb) : DE X W (.BinOp a op b pos) (op2 g fa fb) := imp_pe (pe_op ho ha hb) (two hg)
theorem de_cmp {op : CmpOp} (ho : OpR X (compareOp op) r) (hg : OpG X.K r g) (ha : DE X W a fa) (hb : DE X W b fb) (hm : behindInMarks op b = false) : DE X W (.Compare a [op] [b] pos) (op2 g fa fb) := imp_pe (pe_cmpR ho ha hb hm) (two hg)
/-- a comparison as a test -/
def asB : Ev → R Bool
  | (_, .bl b) => .ok b
  | _ => .bad
def t2 (g : D → D → R Ev) (fa fb : EF) : TF := fun ρ => (op2 g fa fb ρ).bind asB
theorem bl_of {K : PySem.W.Frag} {hid : Addr → Prop} {own : Own} {H H' : Hp} {k : Kd} {b : Bool} {v : V} (h : RV K hid own H H' k (.bl b) v) : v = .bl b := h.rt
theorem test_of {f : EF} : ∀ σ H Q, tT X.K X.mg W (fun ρ => (f ρ).bind asB) σ H Q → tTest (tE X.K X.mg W f) σ H Q := fun σ H Q ⟨hid, own, ρ, hS, h⟩ =>
  ⟨hid, own, ρ, hS, PostT.partE h fun e H1 v s1 r1 h1 => by
    obtain ⟨k, d⟩ := e
    cases d with
    | bl b => exact ⟨b, bl_of r1, h1 H1 (Same.refl _)⟩
    | _ => exact h1.elim⟩
theorem tTest_mono {t t' : TE} (k : ∀ σ H Q, t σ H Q → t' σ H Q) : ∀ σ H Q, tTest t σ H Q → tTest t' σ H Q := fun σ H Q h => k σ H _ h
theorem dt_cmp {op : CmpOp} (ho : OpR X (compareOp op) r) (hg : OpG X.K r g) (ha : DE X W a fa) (hb : DE X W b fb) (hm : behindInMarks op b = false) : DT X W (.Compare a [op] [b] pos) (t2 g fa fb) :=
  imp_pt (pt_cmpR ho ha hb hm) fun σ H Q h => tTest_mono (two hg) σ H Q (test_of σ H Q h)

theorem OpG.or {K : PySem.W.Frag} {r r' : R2} {g g' : D → D → R Ev} (p : D → D → Bool) (h : OpG K r g) (h' : OpG K r' g') : OpG K (fun x y H Q => r x y H Q ∨ r' x y H Q) (fun x y => if p x y = true then g x y else g' x y) := by
  intro hid own H Wx x y dx dy Q hb rx ry q
  have q : Post K hid own H Wx (if p dx dy = true then g dx dy else g' dx dy) Q := q
  by_cases c : p dx dy = true
  · rw [if_pos c] at q; exact .inl (h hb rx ry q)
  · rw [if_neg c] at q; exact .inr (h' hb rx ry q)

/-! #### whole numbers -/
def gI (c : Int → Int → Bool) (f : Int → Int → Int) : D → D → R Ev
  | .int i, .int j => if c i j = true then .ok (.cl, .int (f i j)) else .bad
  | _, _ => .bad
theorem opg_I {K : PySem.W.Frag} {C : Int → Int → Prop} {c : Int → Int → Bool} {f : Int → Int → Int} (hc : ∀ i j, c i j = true → C i j) : OpG K (rI C fun i j => .int (f i j)) (gI c f) := by
  intro hid own H Wx x y dx dy Q hb rx ry q
  unfold gI at q
  split at q
  · rename_i i j
    split at q
    · rename_i h
      exact ⟨i, j, rx, ry, hc i j h, q.now rfl⟩
    · exact q.elim
  · exact q.elim
def gI0 (f : Int → Int → Int) : D → D → R Ev
  | .int i, .int j => .ok (.cl, .int (f i j))
  | _, _ => .bad
theorem opg_I0 {K : PySem.W.Frag} {f : Int → Int → Int} : OpG K (rI0 fun i j => .int (f i j)) (gI0 f) := by
  intro hid own H Wx x y dx dy Q hb rx ry q
  unfold gI0 at q
  split at q
  · exact ⟨_, _, rx, ry, q.now rfl⟩
  · exact q.elim
def cMul (i j : Int) : Bool := decide (-(2 ^ 64) < i ∧ i < 2 ^ 64) || decide (-(2 ^ 64) < j ∧ j < 2 ^ 64)
def gSub := gI0 fun i j => i - j
def gMulI := gI cMul fun i j => i * j
def gMod := gI (fun _ j => decide (0 < j)) fun i j => i % j
def gFdiv := gI (fun _ j => decide (0 < j ∧ j < 1073741824)) fun i j => i / j
def gPow := gI (fun i j => decide (0 ≤ j ∧ j ≤ 1000000 ∧ i.natAbs < 2 ^ 64)) fun i j => i ^ j.toNat
theorem de_sub (ha : DE X W a fa) (hb : DE X W b fb) : DE X W (.BinOp a .Sub b pos) (op2 gSub fa fb) := de_op op_sub opg_I0 ha hb
theorem de_mulI (ha : DE X W a fa) (hb : DE X W b fb) : DE X W (.BinOp a .Mult b pos) (op2 gMulI fa fb) := de_op op_mul (opg_I fun i j h => by
  unfold cMul at h
  rw [Bool.or_eq_true, decide_eq_true_eq, decide_eq_true_eq] at h
  exact h) ha hb
theorem de_mod (ha : DE X W a fa) (hb : DE X W b fb) : DE X W (.BinOp a .Mod b pos) (op2 gMod fa fb) := de_op op_mod (opg_I fun i j h => of_decide_eq_true h) ha hb
theorem de_fdiv (ha : DE X W a fa) (hb : DE X W b fb) : DE X W (.BinOp a .FloorDiv b pos) (op2 gFdiv fa fb) := de_op op_fdiv (opg_I fun i j h => of_decide_eq_true h) ha hb
theorem de_pow (ha : DE X W a fa) (hb : DE X W b fb) : DE X W (.BinOp a .Pow b pos) (op2 gPow fa fb) := de_op op_pow (opg_I fun i j h => of_decide_eq_true h) ha hb

/-! #### + -/
def gAddS : D → D → R Ev
  | .str a, .str b => if a.length + b.length ≤ 16777216 then .ok (.cl, .str (a ++ b)) else .bad
  | _, _ => .bad
theorem opg_addS {K : PySem.W.Frag} : OpG K (fun x y H Q => ∃ i j, x = .str i ∧ y = .str j ∧ i.length + j.length ≤ sizeLine ∧ Q (.str (i ++ j)) H) gAddS := by
  intro hid own H Wx x y dx dy Q hb rx ry q
  unfold gAddS at q
  split at q
  · split at q
    · rename_i h
      refine ⟨_, _, rx, ry, by rw [S_len, S_len, sizeLine_eq]; exact h, ?_⟩
      rw [S_app]
      exact q.now rfl
    · exact q.elim
  · exact q.elim
def gAddL : D → D → R Ev
  | .lst a, .lst b => if a.length + b.length ≤ 16777216 then .ok (.fr, .lst (a ++ b)) else .bad
  | _, _ => .bad
theorem no_dom {P : Addr → Prop} {H : Hp} (h : ∀ b, P b → H b ≠ none) {p : Addr} (n : H p = none) : ¬ P p := fun z => h p z n
theorem opg_addL {K : PySem.W.Frag} : OpG K rCat gAddL := by
  intro hid own H Wx x y dx dy Q hb rx ry q
  unfold gAddL at q
  split at q
  · rename_i da db
    split at q
    · rename_i h
      obtain ⟨p1, vs, e1, e2, e3⟩ := rx
      obtain ⟨p2, ws, f1, f2, f3⟩ := ry
      refine ⟨p1, p2, vs, ws, e1, f1, (hd_some.mp e2).2, (hd_some.mp f2).2, by rw [e3.len, f3.len, sizeLine_eq]; exact h, fun p np => q.newL np (no_dom hb np) (e3.app f3)⟩
    · exact q.elim
  · exact q.elim
def isI : D → Bool
  | .int _ => true
  | _ => false
def isS : D → Bool
  | .str _ => true
  | _ => false
def gAdd : D → D → R Ev := fun x y => if isI x = true then gI0 (fun i j => i + j) x y else if isS x = true then gAddS x y else gAddL x y
theorem de_add (ha : DE X W a fa) (hb : DE X W b fb) : DE X W (.BinOp a .Add b pos) (op2 gAdd fa fb) :=
  de_op (op_add.or (op_add_str.or op_cat)) (OpG.or (fun x _ => isI x) opg_I0 (OpG.or (fun x _ => isS x) opg_addS opg_addL)) ha hb
@[simp] theorem gAdd_int (i j : Int) : gAdd (.int i) (.int j) = .ok (.cl, .int (i + j)) := rfl
theorem gAdd_str (a b : List Nat) : gAdd (.str a) (.str b) = if a.length + b.length ≤ 16777216 then .ok (.cl, .str (a ++ b)) else .bad := rfl
theorem gAdd_lst (a b : List D) : gAdd (.lst a) (.lst b) = if a.length + b.length ≤ 16777216 then .ok (.fr, .lst (a ++ b)) else .bad := rfl

/-! #### comparisons of whole numbers and texts -/
def gC (f : Int → Int → Bool) (g : List Nat → List Nat → Bool) : D → D → R Ev
  | .int i, .int j => .ok (.cl, .bl (f i j))
  | .str a, .str b => .ok (.cl, .bl (g a b))
  | _, _ => .bad
theorem opg_C {K : PySem.W.Frag} {f : Int → Int → Bool} {g : List Nat → List Nat → Bool} : OpG K (fun x y H Q => (rI0 fun i j => .bl (f i j)) x y H Q ∨ (∃ i j, x = .str i ∧ y = .str j ∧ Q (.bl (g i.cps.toList j.cps.toList)) H)) (gC f g) := by
  intro hid own H Wx x y dx dy Q hb rx ry q
  unfold gC at q
  split at q
  · exact .inl ⟨_, _, rx, ry, q.now rfl⟩
  · refine .inr ⟨_, _, rx, ry, ?_⟩
    rw [S_cps, S_cps]
    exact q.now rfl
  · exact q.elim
def gLt := gC (fun i j => decide (i < j)) fun a b => decide (a < b)
def gLe := gC (fun i j => decide (i ≤ j)) fun a b => !decide (b < a)
def gGt := gC (fun i j => decide (j < i)) fun a b => decide (b < a)
def gGe := gC (fun i j => decide (j ≤ i)) fun a b => !decide (a < b)
end
section
variable {X : Cx} {W : WX} {a b : Expr} {fa fb : EF} {pos : Pos}
theorem op_ltA : OpR X (compareOp .Lt) (fun x y H Q => (rI0 fun i j => .bl (decide (i < j))) x y H Q ∨ (∃ i j, x = .str i ∧ y = .str j ∧ Q (.bl (decide (i.cps.toList < j.cps.toList))) H)) := op_lt.or op_lt_str
theorem op_leA : OpR X (compareOp .LtE) (fun x y H Q => (rI0 fun i j => .bl (decide (i ≤ j))) x y H Q ∨ (∃ i j, x = .str i ∧ y = .str j ∧ Q (.bl (!decide (j.cps.toList < i.cps.toList))) H)) := op_le.or op_le_str
theorem op_gtA : OpR X (compareOp .Gt) (fun x y H Q => (rI0 fun i j => .bl (decide (j < i))) x y H Q ∨ (∃ i j, x = .str i ∧ y = .str j ∧ Q (.bl (decide (j.cps.toList < i.cps.toList))) H)) := op_gt.or op_gt_str
theorem op_geA : OpR X (compareOp .GtE) (fun x y H Q => (rI0 fun i j => .bl (decide (j ≤ i))) x y H Q ∨ (∃ i j, x = .str i ∧ y = .str j ∧ Q (.bl (!decide (i.cps.toList < j.cps.toList))) H)) := op_ge.or op_ge_str
theorem de_lt (ha : DE X W a fa) (hb : DE X W b fb) : DE X W (.Compare a [.Lt] [b] pos) (op2 gLt fa fb) := de_cmp op_ltA opg_C ha hb (nobehind _ (by decide) (by decide))
theorem de_le (ha : DE X W a fa) (hb : DE X W b fb) : DE X W (.Compare a [.LtE] [b] pos) (op2 gLe fa fb) := de_cmp op_leA opg_C ha hb (nobehind _ (by decide) (by decide))
theorem de_gt (ha : DE X W a fa) (hb : DE X W b fb) : DE X W (.Compare a [.Gt] [b] pos) (op2 gGt fa fb) := de_cmp op_gtA opg_C ha hb (nobehind _ (by decide) (by decide))
theorem de_ge (ha : DE X W a fa) (hb : DE X W b fb) : DE X W (.Compare a [.GtE] [b] pos) (op2 gGe fa fb) := de_cmp op_geA opg_C ha hb (nobehind _ (by decide) (by decide))
theorem dt_lt (ha : DE X W a fa) (hb : DE X W b fb) : DT X W (.Compare a [.Lt] [b] pos) (t2 gLt fa fb) := dt_cmp op_ltA opg_C ha hb (nobehind _ (by decide) (by decide))
theorem dt_le (ha : DE X W a fa) (hb : DE X W b fb) : DT X W (.Compare a [.LtE] [b] pos) (t2 gLe fa fb) := dt_cmp op_leA opg_C ha hb (nobehind _ (by decide) (by decide))
theorem dt_gt (ha : DE X W a fa) (hb : DE X W b fb) : DT X W (.Compare a [.Gt] [b] pos) (t2 gGt fa fb) := dt_cmp op_gtA opg_C ha hb (nobehind _ (by decide) (by decide))
theorem dt_ge (ha : DE X W a fa) (hb : DE X W b fb) : DT X W (.Compare a [.GtE] [b] pos) (t2 gGe fa fb) := dt_cmp op_geA opg_C ha hb (nobehind _ (by decide) (by decide))
/-- a <= b <= c -/
def chn (g g' : D → D → R Ev) (fa fb fc : EF) : EF := fun ρ => (fa ρ).bind fun x => (fb ρ).bind fun y => (g x.2 y.2).bind fun z => match z.2 with
  | .bl true => (fc ρ).bind fun w => g' y.2 w.2
  | .bl false => .ok (.cl, .bl false)
  | _ => .bad
theorem de_chain {op op' : CmpOp} {r r' : R2} {g g' : D → D → R Ev} {c : Expr} {fc : EF} (ho : OpR X (compareOp op) r) (hg : OpG X.K r g) (ho' : OpR X (compareOp op') r') (hg' : OpG X.K r' g')
    (ha : DE X W a fa) (hb : DE X W b fb) (hc : DE X W c fc) (hm : lastMarks [op, op'] [b, c] = false := by with_unfolding_all rfl) : DE X W (.Compare a [op, op'] [b, c] pos) (chn g g' fa fb fc) := by
  refine imp_pe (pe_chain ho ho' ha hb hc hm) fun σ H Q ⟨hid, own, ρ, hS, h⟩ => ?_
  refine ⟨hid, own, ρ, hS, Post.part h fun e1 H1 x s1 r1 h1 => ⟨hid, own, ρ, hS.mono s1, Post.part h1 fun e2 H2 y s2 r2 h2 => ?_⟩⟩
  have S2 := (hS.mono s1).mono s2
  refine hg (Wx := Wc X.mg W σ) S2.dom (r1.rt.mono s2) r2.rt (Post.part h2 fun e3 H3 z s3 r3 h3 => ?_)
  obtain ⟨k3, d3⟩ := e3
  cases d3 with
  | bl t =>
    refine ⟨t, bl_of r3, ?_⟩
    cases t with
    | true => exact iteT ⟨hid, own, ρ, S2.mono s3, Post.part h3 fun e4 H4 w s4 r4 h4 => hg' ((S2.mono s3).mono s4).dom ((r2.rt.mono s3).mono s4) r4.rt h4⟩
    | false => exact iteF (h3.now rfl)
  | _ => exact h3.elim
theorem de_lele {c : Expr} {fc : EF} (ha : DE X W a fa) (hb : DE X W b fb) (hc : DE X W c fc) (hm : lastMarks [.LtE, .LtE] [b, c] = false := by with_unfolding_all rfl) : DE X W (.Compare a [.LtE, .LtE] [b, c] pos) (chn gLe gLe fa fb fc) :=
  de_chain op_leA opg_C op_leA opg_C ha hb hc hm
end

/-! ### == of data -/
mutual
def toP : D → Option PyData
  | .non => some .none
  | .bl b => some (.bool b)
  | .int i => some (.int i)
  | .str x => some (.str (S x))
  | .tup xs => (toPs xs).map .tuple
  | .lst xs => (toPs xs).map .list
  | .rol _ => none
def toPs : List D → Option (List PyData)
  | [] => some []
  | x :: xs => (toP x).bind fun p => (toPs xs).map fun r => p :: r
end
/-- the equality of data -/
def peq (x y : D) : Bool := match toP x, toP y with
  | some p, some q => PyData.eqv p q
  | _, _ => false
def shp (x : D) : Bool := match toP x with
  | some p => SeqAt.shaped p
  | none => false
mutual
theorem Rp.dp {K : PySem.W.Frag} {H : Hp} : ∀ (d : D) (v : V) (p : PyData), Rp K H d v → toP d = some p → Dp K H v p
  | .non, _, _, h, e => by cases e; cases (show _ = _ from h); exact .non
  | .bl b, _, _, h, e => by cases e; cases (show _ = _ from h); exact .bl b
  | .int i, _, _, h, e => by cases e; cases (show _ = _ from h); exact .int i
  | .str x, _, _, h, e => by cases e; cases (show _ = _ from h); exact .str _
  | .tup xs, _, p, ⟨a, vs, h1, h2, h3⟩, e => by
    unfold toP at e
    cases q : toPs xs with
    | none => rw [q] at e; cases e
    | some ps =>
      rw [q] at e; cases e; subst h1
      exact .tup h2 (RpL.dp xs vs ps h3 q)
  | .lst xs, _, p, ⟨a, vs, h1, h2, h3⟩, e => by
    unfold toP at e
    cases q : toPs xs with
    | none => rw [q] at e; cases e
    | some ps =>
      rw [q] at e; cases e; subst h1
      exact .lst (SqL.of h2) (RpL.dp xs vs ps h3 q)
  | .rol _, _, _, _, e => by cases e
theorem RpL.dp {K : PySem.W.Frag} {H : Hp} : ∀ (ds : List D) (vs : List V) (ps : List PyData), RpL K H ds vs → toPs ds = some ps → DpAll K H vs ps
  | [], _, _, h, e => by cases e; cases (show _ = _ from h); exact .nil
  | d :: ds, _, ps, ⟨v, r, h1, h2, h3⟩, e => by
    unfold toPs at e
    cases q : toP d with
    | none => rw [q] at e; cases e
    | some p =>
      cases q2 : toPs ds with
      | none => rw [q, q2] at e; cases e
      | some qs =>
        rw [q, q2] at e; cases e; subst h1
        exact .cons (Rp.dp d v p h2 q) (RpL.dp ds r qs h3 q2)
end
mutual
theorem Dp.mono {K : PySem.W.Frag} {H H' : Hp} (s : Same H H') : ∀ {v : V} {p : PyData}, Dp K H v p → Dp K H' v p
  | _, _, .non => .non
  | _, _, .bl b => .bl b
  | _, _, .int b => .int b
  | _, _, .str b => .str b
  | _, _, .lst a b => .lst (s.seq a) (DpAll.mono s b)
  | _, _, .tup a b => .tup (same_seqT s a) (DpAll.mono s b)
theorem DpAll.mono {K : PySem.W.Frag} {H H' : Hp} (s : Same H H') : ∀ {v : List V} {p : List PyData}, DpAll K H v p → DpAll K H' v p
  | _, _, .nil => .nil
  | _, _, .cons a b => .cons (Dp.mono s a) (DpAll.mono s b)
end
theorem RT.dp {K : PySem.W.Frag} {hid : Addr → Prop} {own : Own} {H : Hp} {d : D} {v : V} {p : PyData} (h : RT K hid own H d v) (e : toP d = some p) : Dp K H v p := Dp.mono hd_le (Rp.dp d v p h.rp e)
def scl : D → D → Bool
  | .non, .non => true | .non, .int _ => true | .int _, .non => true | .non, .bl _ => true | .bl _, .non => true | .non, .str _ => true | .str _, .non => true
  | .int _, .int _ => true | .bl _, .bl _ => true | .str _, .str _ => true
  | .int _, .str _ => true | .str _, .int _ => true | .bl _, .str _ => true | .str _, .bl _ => true
  | _, _ => false
def seq' : D → D → Bool
  | .non, .non => true
  | .int a, .int b => a == b
  | .bl a, .bl b => a == b
  | .str a, .str b => a == b
  | _, _ => false
def gEqS (neg : Bool) : D → D → R Ev := fun x y => if scl x y = true then .ok (.cl, .bl (if neg then !(seq' x y) else seq' x y)) else .bad
theorem S_beq (a b : List Nat) : decide (V.str (S a) = V.str (S b)) = (a == b) := by
  rw [Bool.eq_iff_iff, decide_eq_true_eq, beq_iff_eq]
  exact ⟨fun h => S_inj (V.str.inj h), fun h => by rw [h]⟩
theorem seq_dec : ∀ {dx dy : D} {x y : V} {K : PySem.W.Frag} {hid : Addr → Prop} {own : Own} {H : Hp}, scl dx dy = true → RT K hid own H dx x → RT K hid own H dy y → scal x y = true ∧ decide (x = y) = seq' dx dy := by
  intro dx dy x y K hid own H h rx ry
  cases dx <;> cases dy <;> first
    | exact absurd (show false = true from h) Bool.false_ne_true
    | (cases (show _ = _ from rx)
       cases (show _ = _ from ry)
       refine ⟨rfl, ?_⟩
       first
       | exact dec_int
       | exact dec_bl
       | exact S_beq _ _
       | exact decide_eq_true rfl
       | exact decide_eq_false (fun z => nomatch z))
theorem opg_eqS {K : PySem.W.Frag} : OpG K rEq (gEqS false) := by
  intro hid own H Wx x y dx dy Q hb rx ry q
  unfold gEqS at q
  split at q
  · rename_i h
    obtain ⟨h1, h2⟩ := seq_dec h rx ry
    exact ⟨h1, by rw [h2]; exact q.now rfl⟩
  · exact q.elim
theorem opg_neS {K : PySem.W.Frag} : OpG K rNe (gEqS true) := by
  intro hid own H Wx x y dx dy Q hb rx ry q
  unfold gEqS at q
  split at q
  · rename_i h
    obtain ⟨h1, h2⟩ := seq_dec h rx ry
    exact ⟨h1, by rw [h2]; exact q.now rfl⟩
  · exact q.elim
def gEqD (neg : Bool) : D → D → R Ev := fun x y => if (shp x && shp y) = true then .ok (.cl, .bl (if neg then !(peq x y) else peq x y)) else .bad
theorem opg_eqD {K : PySem.W.Frag} : OpG K (rEqD K) (gEqD false) := by
  intro hid own H Wx x y dx dy Q hb rx ry q
  unfold gEqD at q
  split at q
  · rename_i h
    rw [Bool.and_eq_true] at h
    obtain ⟨h1, h2⟩ := h
    unfold shp at h1 h2
    cases ex : toP dx with
    | none => rw [ex] at h1; exact absurd h1 Bool.false_ne_true
    | some p =>
      cases ey : toP dy with
      | none => rw [ey] at h2; exact absurd h2 Bool.false_ne_true
      | some p' =>
        rw [ex] at h1
        rw [ey] at h2
        refine ⟨p, p', rx.dp ex, ry.dp ey, h1, h2, q.now ?_⟩
        show _ = V.bl (peq dx dy)
        unfold peq
        rw [ex, ey]
  · exact q.elim
theorem opg_neD {K : PySem.W.Frag} : OpG K (rNeD K) (gEqD true) := by
  intro hid own H Wx x y dx dy Q hb rx ry q
  unfold gEqD at q
  split at q
  · rename_i h
    rw [Bool.and_eq_true] at h
    obtain ⟨h1, h2⟩ := h
    unfold shp at h1 h2
    cases ex : toP dx with
    | none => rw [ex] at h1; exact absurd h1 Bool.false_ne_true
    | some p =>
      cases ey : toP dy with
      | none => rw [ey] at h2; exact absurd h2 Bool.false_ne_true
      | some p' =>
        rw [ex] at h1
        rw [ey] at h2
        refine ⟨p, p', rx.dp ex, ry.dp ey, h1, h2, q.now ?_⟩
        show _ = V.bl (!peq dx dy)
        unfold peq
        rw [ex, ey]
  · exact q.elim
def gEq : D → D → R Ev := fun x y => if scl x y = true then gEqS false x y else gEqD false x y
def gNe : D → D → R Ev := fun x y => if scl x y = true then gEqS true x y else gEqD true x y
section
variable {X : Cx} {W : WX} {a b : Expr} {fa fb : EF} {pos : Pos}
theorem de_eq (hu : X.A.units + 64 < cLine) (ha : DE X W a fa) (hb : DE X W b fb) : DE X W (.Compare a [.Eq] [b] pos) (op2 gEq fa fb) := de_cmp (op_eq.or (op_eqD hu)) (OpG.or scl opg_eqS opg_eqD) ha hb (nobehind _ (by decide) (by decide))
theorem dt_eq (hu : X.A.units + 64 < cLine) (ha : DE X W a fa) (hb : DE X W b fb) : DT X W (.Compare a [.Eq] [b] pos) (t2 gEq fa fb) := dt_cmp (op_eq.or (op_eqD hu)) (OpG.or scl opg_eqS opg_eqD) ha hb (nobehind _ (by decide) (by decide))
theorem de_ne (hu : X.A.units + 64 < cLine) (ha : DE X W a fa) (hb : DE X W b fb) : DE X W (.Compare a [.NotEq] [b] pos) (op2 gNe fa fb) := de_cmp (op_ne.or (op_neD hu)) (OpG.or scl opg_neS opg_neD) ha hb (nobehind _ (by decide) (by decide))
theorem dt_ne (hu : X.A.units + 64 < cLine) (ha : DE X W a fa) (hb : DE X W b fb) : DT X W (.Compare a [.NotEq] [b] pos) (t2 gNe fa fb) := dt_cmp (op_ne.or (op_neD hu)) (OpG.or scl opg_neS opg_neD) ha hb (nobehind _ (by decide) (by decide))
end
end PL
set_option Elab.async false
set_option linter.all false
set_option maxRecDepth 100000
set_option maxHeartbeats 4000000
/-! PL3: tests, choices, built-in calls, methods of texts, subscripts, displays, calls of defs, comprehensions. -/
namespace PL
open PySem PySem.Spec L2

/-! ### truth, tests -/
def gTru : D → R Bool
  | .non => .ok false
  | .bl b => .ok b
  | .int i => .ok (i != 0)
  | .str x => if x.length ≤ 16777216 then .ok (!x.isEmpty) else .bad
  | .tup xs => .ok (!xs.isEmpty)
  | .lst xs => .ok (!xs.isEmpty)
  | .rol xs => .ok (!xs.isEmpty)
theorem gTru_cases : ∀ d : D, (∃ k, gTru d = .ok k) ∨ gTru d = .bad
  | .non => .inl ⟨_, rfl⟩
  | .bl _ => .inl ⟨_, rfl⟩
  | .int _ => .inl ⟨_, rfl⟩
  | .tup _ => .inl ⟨_, rfl⟩
  | .lst _ => .inl ⟨_, rfl⟩
  | .rol _ => .inl ⟨_, rfl⟩
  | .str x => by
    by_cases h : x.length ≤ 16777216
    · exact .inl ⟨!x.isEmpty, if_pos h⟩
    · exact .inr (if_neg h)
def tVal (fa : EF) : TF := fun ρ => (fa ρ).bind fun e => gTru e.2
def tNotF (fa : TF) : TF := fun ρ => (fa ρ).bind fun b => .ok (!b)
def tAndF (fa fb : TF) : TF := fun ρ => (fa ρ).bind fun b => if b = true then fb ρ else .ok false
def tOrF (fa fb : TF) : TF := fun ρ => (fa ρ).bind fun b => if b = true then .ok true else fb ρ
theorem isEmpty_len {α β : Type} {xs : List α} {ys : List β} (h : xs.length = ys.length) : xs.isEmpty = ys.isEmpty := by
  cases xs <;> cases ys <;> first | rfl | cases h
theorem tru_of {K : PySem.W.Frag} {hid : Addr → Prop} {own : Own} {H : Hp} : ∀ {d : D} {v : V} {k : Bool}, RT K hid own H d v → gTru d = .ok k → TruV K v H k
  | .non, _, _, h, e => by cases e; cases (show _ = _ from h); exact rfl
  | .bl b, _, _, h, e => by cases e; cases (show _ = _ from h); exact rfl
  | .int b, _, _, h, e => by cases e; cases (show _ = _ from h); exact rfl
  | .str x, _, k, h, e => by
    have e : (if x.length ≤ 16777216 then R.ok (!x.isEmpty) else R.bad) = .ok k := e
    split at e
    · rename_i hz
      cases e
      cases (show _ = _ from h)
      refine ⟨by rw [S_len, sizeLine_eq]; exact hz, ?_⟩
      rw [S_len]
      cases x with
      | nil => rfl
      | cons c r =>
        have : ((List.length (c :: r) : Nat) : Int) ≠ 0 := by rw [List.length_cons]; omega
        show true = _
        rw [eq_comm, bne_iff_ne]
        exact this
    · cases e
  | .tup xs, _, _, ⟨a, vs, h1, h2, h3⟩, e => by
    cases e; subst h1
    exact .inr (.inl ⟨vs, same_seqT hd_le h2, by rw [isEmpty_len h3.len]⟩)
  | .lst xs, _, _, ⟨a, vs, h1, h2, h3⟩, e => by
    cases e; subst h1
    exact .inl ⟨vs, SqL.of (hd_le _ _ h2), by rw [isEmpty_len h3.len]⟩
  | .rol xs, _, _, ⟨a, vs, h1, h2, h3⟩, e => by
    cases e; subst h1
    exact .inl ⟨vs, hd_le.seq h2, by rw [isEmpty_len h3.len]⟩
section
variable {X : Cx} {W : WX} {a b c : Expr} {fa fb fc : EF} {ta tb tc : TF} {rest : List Expr} {pos : Pos}
theorem dt_truth (ha : DE X W a fa) (he : ∀ whole, isTrue a X.env whole = (do let v ← whole; standAt a.pos; holding [v] (truthy v)) := by intro _; rfl) : DT X W a (tVal fa) := by
  refine imp_pt (pt_truth ha he) fun σ H Q ⟨hid, own, ρ, hS, h⟩ => ?_
  refine ⟨hid, own, ρ, hS, PostT.partE h fun e H1 v s1 r1 h1 => ?_⟩
  rcases gTru_cases e.2 with ⟨k, q⟩ | q
  · rw [q] at h1
    exact ⟨k, tru_of r1.rt q, h1 H1 (Same.refl _)⟩
  · rw [q] at h1; exact h1.elim
theorem dt_not (ha : DT X W a ta) : DT X W (.UnaryOp .Not a pos) (tNotF ta) :=
  imp_pt (pt_not ha) fun σ H Q ⟨hid, own, ρ, hS, h⟩ => ⟨hid, own, ρ, hS, PostT.part h fun e H1 s1 h1 => h1 H1 (Same.refl _)⟩
theorem dw_pt (h : DW X W a ta) : DT X W a ta := h.pt
theorem dw_and1 (ha : DT X W a ta) : DW X W (.BoolOp .And [a] pos) ta := pw_and1 ha
theorem dw_or1 (ha : DT X W a ta) : DW X W (.BoolOp .Or [a] pos) ta := pw_or1 ha
theorem dw_and (ha : DT X W a ta) (hb : DW X W (.BoolOp .And (b :: rest) pos) tb) : DW X W (.BoolOp .And (a :: b :: rest) pos) (tAndF ta tb) :=
  imp_pw (pw_and ha hb) fun σ H Q ⟨hid, own, ρ, hS, h⟩ => ⟨hid, own, ρ, hS, PostT.part h fun e H1 s1 h1 => by
    cases e with
    | true => rw [if_pos rfl] at h1 ⊢; exact ⟨hid, own, ρ, hS.mono s1, h1⟩
    | false => rw [if_neg Bool.false_ne_true] at h1 ⊢; exact h1 H1 (Same.refl _)⟩
theorem dw_or (ha : DT X W a ta) (hb : DW X W (.BoolOp .Or (b :: rest) pos) tb) : DW X W (.BoolOp .Or (a :: b :: rest) pos) (tOrF ta tb) :=
  imp_pw (pw_or ha hb) fun σ H Q ⟨hid, own, ρ, hS, h⟩ => ⟨hid, own, ρ, hS, PostT.part h fun e H1 s1 h1 => by
    cases e with
    | true => rw [if_pos rfl] at h1 ⊢; exact h1 H1 (Same.refl _)
    | false => rw [if_neg Bool.false_ne_true] at h1 ⊢; exact ⟨hid, own, ρ, hS.mono s1, h1⟩⟩
/-- and, or, not as values: the first ones by truth -/
def eAnd (fa fb : EF) : EF := fun ρ => (fa ρ).bind fun x => (gTru x.2).bind fun k => if k = true then fb ρ else .ok x
def eOr (fa fb : EF) : EF := fun ρ => (fa ρ).bind fun x => (gTru x.2).bind fun k => if k = true then .ok x else fb ρ
def eNot (fa : EF) : EF := fun ρ => (fa ρ).bind fun x => (gTru x.2).bind fun k => .ok (.cl, .bl (!k))
theorem keepV {K : PySem.W.Frag} {hid : Addr → Prop} {own : Own} {H H1 : Hp} {Wx : Str → Hp → Prop} {Q : VK} {e : Ev} {v : V} (s : Same H H1) (r : RV K hid own H H1 e.1 e.2 v) (h : Post K hid own H Wx (.ok e) Q) : Q v H1 := h H1 v s r
theorem de_and (ha : DE X W a fa) (hb : DE X W (.BoolOp .And (b :: rest) pos) fb) : DE X W (.BoolOp .And (a :: b :: rest) pos) (eAnd fa fb) := by
  refine imp_pe (pe_andT ha hb) fun σ H Q ⟨hid, own, ρ, hS, h⟩ => ⟨hid, own, ρ, hS, ?_⟩
  have h : Post X.K hid own H (Wc X.mg W σ) ((fa ρ).bind fun x => (gTru x.2).bind fun k => if k = true then fb ρ else .ok x) Q := h
  cases e : fa ρ with
  | ok x =>
    rw [e] at h
    have h : Post X.K hid own H (Wc X.mg W σ) ((gTru x.2).bind fun k => if k = true then fb ρ else .ok x) Q := h
    intro H1 v s1 r1
    rcases gTru_cases x.2 with ⟨k, q⟩ | q
    · rw [q] at h
      have h : Post X.K hid own H (Wc X.mg W σ) (if k = true then fb ρ else .ok x) Q := h
      refine ⟨k, tru_of r1.rt q, ?_⟩
      cases k with
      | true => exact ⟨hid, own, ρ, hS.mono s1, Post.mono s1 h⟩
      | false => exact h H1 v s1 r1
    · rw [q] at h; exact h.elim
  | exc c => rw [e] at h; exact h
  | bad => rw [e] at h; exact h
theorem de_or (ha : DE X W a fa) (hb : DE X W (.BoolOp .Or (b :: rest) pos) fb) : DE X W (.BoolOp .Or (a :: b :: rest) pos) (eOr fa fb) := by
  refine imp_pe (pe_orT ha hb) fun σ H Q ⟨hid, own, ρ, hS, h⟩ => ⟨hid, own, ρ, hS, ?_⟩
  have h : Post X.K hid own H (Wc X.mg W σ) ((fa ρ).bind fun x => (gTru x.2).bind fun k => if k = true then .ok x else fb ρ) Q := h
  cases e : fa ρ with
  | ok x =>
    rw [e] at h
    have h : Post X.K hid own H (Wc X.mg W σ) ((gTru x.2).bind fun k => if k = true then .ok x else fb ρ) Q := h
    intro H1 v s1 r1
    rcases gTru_cases x.2 with ⟨k, q⟩ | q
    · rw [q] at h
      have h : Post X.K hid own H (Wc X.mg W σ) (if k = true then .ok x else fb ρ) Q := h
      refine ⟨k, tru_of r1.rt q, ?_⟩
      cases k with
      | true => exact h H1 v s1 r1
      | false => exact ⟨hid, own, ρ, hS.mono s1, Post.mono s1 h⟩
    · rw [q] at h; exact h.elim
  | exc c => rw [e] at h; exact h
  | bad => rw [e] at h; exact h
theorem de_one {op} (h : DE X W a fa) : DE X W (.BoolOp op [a] pos) fa := pe_one h
theorem de_not (ha : DE X W a fa) : DE X W (.UnaryOp .Not a pos) (eNot fa) := by
  refine imp_pe (pe_notT ha) fun σ H Q ⟨hid, own, ρ, hS, h⟩ => ⟨hid, own, ρ, hS, Post.part h fun x H1 v s1 r1 h1 => ?_⟩
  rcases gTru_cases x.2 with ⟨k, q⟩ | q
  · rw [q] at h1
    exact ⟨k, tru_of r1.rt q, Post.now (K := X.K) h1 rfl⟩
  · rw [q] at h1; exact h1.elim
def eNeg (fa : EF) : EF := op1 (fun d => match d with | .int i => .ok (.cl, .int (-i)) | _ => .bad) fa
theorem de_neg (ha : DE X W a fa) : DE X W (.UnaryOp .USub a pos) (eNeg fa) := by
  refine imp_pe (pe_un un_neg ha) fun σ H Q ⟨hid, own, ρ, hS, h⟩ => ⟨hid, own, ρ, hS, Post.part h fun x H1 v s1 r1 h1 => ?_⟩
  obtain ⟨k, d⟩ := x
  cases d with
  | int i => exact ⟨i, r1.rt, Post.now (K := X.K) h1 rfl⟩
  | _ => exact h1.elim
def eIf (tc : TF) (fa fb : EF) : EF := fun ρ => (tc ρ).bind fun k => if k = true then fa ρ else fb ρ
theorem de_if (hc : DT X W c tc) (ha : DE X W a fa) (hb : DE X W b fb) : DE X W (.IfExp c a b pos) (eIf tc fa fb) :=
  imp_pe (pe_ifExp hc ha hb) fun σ H Q ⟨hid, own, ρ, hS, h⟩ => ⟨hid, own, ρ, hS, Post.partT h fun e H1 s1 h1 => by
    cases e with
    | true => rw [if_pos rfl] at h1 ⊢; exact ⟨hid, own, ρ, hS.mono s1, h1⟩
    | false => rw [if_neg Bool.false_ne_true] at h1 ⊢; exact ⟨hid, own, ρ, hS.mono s1, h1⟩⟩
/-- is None -/
def isN : D → Bool
  | .non => true
  | _ => false
def eIsN (neg : Bool) (fa : EF) : EF := op1 (fun d => .ok (.cl, .bl (if neg then !isN d else isN d))) fa
theorem isN_of {K : PySem.W.Frag} {hid : Addr → Prop} {own : Own} {H : Hp} : ∀ {d : D} {v : V}, RT K hid own H d v → decide (v = .non) = isN d := by
  intro d v h
  cases d with
  | non => cases (show _ = _ from h); rfl
  | bl b => cases (show _ = _ from h); rfl
  | int b => cases (show _ = _ from h); rfl
  | str b => cases (show _ = _ from h); rfl
  | tup b => obtain ⟨a, vs, h1, _⟩ := h; subst h1; rfl
  | lst b => obtain ⟨a, vs, h1, _⟩ := h; subst h1; rfl
  | rol b => obtain ⟨a, vs, h1, _⟩ := h; subst h1; rfl
theorem de_isN {j pos'} (ha : DE X W a fa) : DE X W (.Compare a [.Is] [.Constant .none j pos'] pos) (eIsN false fa) :=
  imp_pe (pe_cmp (pc_isN ha)) fun σ H Q ⟨hid, own, ρ, hS, h⟩ => ⟨hid, own, ρ, hS, Post.part h fun x H1 v s1 r1 h1 => by rw [isN_of r1.rt]; exact Post.now (K := X.K) h1 rfl⟩
theorem de_notN {j pos'} (ha : DE X W a fa) : DE X W (.Compare a [.IsNot] [.Constant .none j pos'] pos) (eIsN true fa) :=
  imp_pe (pe_cmp (pc_notN ha)) fun σ H Q ⟨hid, own, ρ, hS, h⟩ => ⟨hid, own, ρ, hS, Post.part h fun x H1 v s1 r1 h1 => by rw [isN_of r1.rt]; exact Post.now (K := X.K) h1 rfl⟩
def tE' (fa : EF) : TF := fun ρ => (fa ρ).bind asB
theorem dt_isN {j pos'} (ha : DE X W a fa) : DT X W (.Compare a [.Is] [.Constant .none j pos'] pos) (tE' (eIsN false fa)) :=
  imp_pt (pt_cmp (pc_isN ha)) fun σ H Q h => by
    obtain ⟨hid, own, ρ, hS, h⟩ := test_of σ H Q h
    exact ⟨hid, own, ρ, hS, Post.part h fun x H1 v s1 r1 h1 => by rw [isN_of r1.rt]; exact Post.now (K := X.K) h1 rfl⟩
theorem dt_notN {j pos'} (ha : DE X W a fa) : DT X W (.Compare a [.IsNot] [.Constant .none j pos'] pos) (tE' (eIsN true fa)) :=
  imp_pt (pt_cmp (pc_notN ha)) fun σ H Q h => by
    obtain ⟨hid, own, ρ, hS, h⟩ := test_of σ H Q h
    exact ⟨hid, own, ρ, hS, Post.part h fun x H1 v s1 r1 h1 => by rw [isN_of r1.rt]; exact Post.now (K := X.K) h1 rfl⟩
end

/-! ### calls of built-in functions -/
def CallG (K : PySem.W.Frag) (r : List V → Hp → VK → Prop) (g : D → R Ev) : Prop := ∀ {hid own H Wx x dx Q}, (∀ b, ob hid own b → H b ≠ none) → RT K hid own H dx x → Post K hid own H Wx (g dx) Q → r [x] H Q
def CallG2 (K : PySem.W.Frag) (r : List V → Hp → VK → Prop) (g : D → D → R Ev) : Prop := ∀ {hid own H Wx x y dx dy Q}, (∀ b, ob hid own b → H b ≠ none) → RT K hid own H dx x → RT K hid own H dy y → Post K hid own H Wx (g dx dy) Q → r [x, y] H Q
section
variable {X : Cx} {W : WX} {e e' : Expr} {fa fb : EF} {r : List V → Hp → VK → Prop} {g : D → R Ev} {g2 : D → D → R Ev} {x : Str} {p pos : Pos} {id T : String}
theorem one_arg (hg : CallG X.K r g) : ∀ σ H Q, tE X.K X.mg W (op1 g fa) σ H Q → tCB r (tCons (tE X.K X.mg W fa) tNil) σ H Q := fun σ H Q ⟨hid, own, ρ, hS, h⟩ =>
  ⟨hid, own, ρ, hS, Post.part h fun e H1 v s1 r1 h1 => hg (hS.mono s1).dom r1.rt h1⟩
theorem two_arg (hg : CallG2 X.K r g2) : ∀ σ H Q, tE X.K X.mg W (op2 g2 fa fb) σ H Q → tCB r (tCons (tE X.K X.mg W fa) (tCons (tE X.K X.mg W fb) tNil)) σ H Q := fun σ H Q ⟨hid, own, ρ, hS, h⟩ =>
  ⟨hid, own, ρ, hS, Post.part h fun e H1 v s1 r1 h1 => ⟨hid, own, ρ, hS.mono s1, Post.part h1 fun e2 H2 v2 s2 r2 h2 => hg ((hS.mono s1).mono s2).dom (r1.rt.mono s2) r2.rt h2⟩⟩
theorem de_callB (hc : CallR X (.builtin id) r) (hgg : CallG X.K r g) (hg : Gl X x) (hm : X.mg x = none) (hv : bootBuiltins x = some (.builtin id)) (ha : DE X W e fa) (hs : starEach [e] X.env = (false, eval e X.env) :: starEach [] X.env := by rfl)
    (hn : x ≠ "__name__" := by decide) (hdb : (x == ("__debug__" : Str)) = false := by decide) : DE X W (.Call (.Name x p) [e] [] pos) (op1 g fa) := imp_pe (pe_callB hc hg hm hv (pa_cons ha pa_nil hs) hn hdb hs rfl) (one_arg hgg)
theorem de_callT (hc : CallR X (.type T) r) (hgg : CallG X.K r g) (hg : Gl X x) (hm : X.mg x = none) (hv : bootBuiltins x = some (.type T)) (ha : DE X W e fa) (hs : starEach [e] X.env = (false, eval e X.env) :: starEach [] X.env := by rfl)
    (hn : x ≠ "__name__" := by decide) (hdb : (x == ("__debug__" : Str)) = false := by decide) : DE X W (.Call (.Name x p) [e] [] pos) (op1 g fa) := imp_pe (pe_callTy hc hg hm hv (pa_cons ha pa_nil hs) hn hdb hs rfl) (one_arg hgg)
theorem de_callB2 (hc : CallR X (.builtin id) r) (hgg : CallG2 X.K r g2) (hg : Gl X x) (hm : X.mg x = none) (hv : bootBuiltins x = some (.builtin id)) (ha : DE X W e fa) (hb : DE X W e' fb)
    (hs : starEach [e, e'] X.env = (false, eval e X.env) :: starEach [e'] X.env := by rfl) (hs' : starEach [e'] X.env = (false, eval e' X.env) :: starEach [] X.env := by rfl) (hpl : (backTo pos (starEach [e'] X.env)).any (·.1) = false := by rfl)
    (hn : x ≠ "__name__" := by decide) (hdb : (x == ("__debug__" : Str)) = false := by decide) : DE X W (.Call (.Name x p) [e, e'] [] pos) (op2 g2 fa fb) := imp_pe (pe_callB hc hg hm hv (pa_cons ha (pa_cons hb pa_nil hs') hs) hn hdb hs hpl) (two_arg hgg)
end
/-- len -/
def gLen : D → R Ev
  | .str x => if x.length ≤ 16777216 then .ok (.cl, .int x.length) else .bad
  | .tup xs => .ok (.cl, .int xs.length)
  | .lst xs => .ok (.cl, .int xs.length)
  | .rol xs => .ok (.cl, .int xs.length)
  | _ => .bad
theorem cg_len {K : PySem.W.Frag} : CallG K (fun xs H Q => ∃ x n, xs = [x] ∧ LenV K x H n ∧ Q (.int n) H) gLen := by
  intro hid own H Wx x dx Q hb rx q
  cases dx with
  | str z =>
    have q : Post K hid own H Wx (if z.length ≤ 16777216 then .ok (.cl, .int z.length) else .bad) Q := q
    split at q
    · rename_i hz
      exact ⟨x, z.length, rfl, by rw [show x = _ from rx]; exact ⟨by rw [S_len, sizeLine_eq]; exact hz, (S_len z).symm⟩, q.now rfl⟩
    · exact q.elim
  | tup xs =>
    obtain ⟨a, vs, h1, h2, h3⟩ := rx
    subst h1
    exact ⟨_, xs.length, rfl, .inr ⟨vs, same_seqT hd_le h2, h3.len.symm⟩, q.now rfl⟩
  | lst xs =>
    obtain ⟨a, vs, h1, h2, h3⟩ := rx
    subst h1
    exact ⟨_, xs.length, rfl, .inl ⟨vs, SqL.of (hd_le _ _ h2), h3.len.symm⟩, q.now rfl⟩
  | rol xs =>
    obtain ⟨a, vs, h1, h2, h3⟩ := rx
    subst h1
    exact ⟨_, xs.length, rfl, .inl ⟨vs, hd_le.seq h2, h3.len.symm⟩, q.now rfl⟩
  | _ => exact q.elim
def gInt : D → R Ev
  | .int i => .ok (.cl, .int i)
  | .bl k => .ok (.cl, .int (if k then 1 else 0))
  | _ => .bad
theorem cg_int {K : PySem.W.Frag} : CallG K (fun xs H Q => (∃ i, xs = [.int i] ∧ Q (.int i) H) ∨ ∃ k, xs = [.bl k] ∧ Q (.int (if k then 1 else 0)) H) gInt := by
  intro hid own H Wx x dx Q hb rx q
  cases dx with
  | int i => exact .inl ⟨i, by rw [show x = _ from rx], q.now rfl⟩
  | bl k => exact .inr ⟨k, by rw [show x = _ from rx], q.now rfl⟩
  | _ => exact q.elim
def gStr : D → R Ev
  | .int i => if 0 ≤ i ∧ i < 2 ^ 64 then .ok (.cl, .str (TL.numL i.toNat)) else .bad
  | _ => .bad
theorem log_small {n : Nat} (h : n < 2 ^ 64) : n.log2 < 1920 := by
  by_cases h0 : n = 0
  · rw [h0]; decide
  · have := (Nat.log2_lt h0).mpr h
    omega
theorem num_text {i : Int} (h : 0 ≤ i) : (toString i : Str) = S (TL.numL i.toNat) := by
  obtain ⟨n, rfl⟩ := Int.eq_ofNat_of_zero_le h
  exact TL.ext_tl (by
    show TL.tl (Str.ofString (toString ((n : Nat) : Int))) = _
    rw [TL.tl_num]
    exact (S_cps _).symm)
theorem cg_str {K : PySem.W.Frag} : CallG K (fun xs H Q => ∃ i, xs = [.int i] ∧ i.natAbs.log2 < 1920 ∧ Q (.str (toString i)) H) gStr := by
  intro hid own H Wx x dx Q hb rx q
  cases dx with
  | int i =>
    have q : Post K hid own H Wx (if 0 ≤ i ∧ i < 2 ^ 64 then .ok (.cl, .str (TL.numL i.toNat)) else .bad) Q := q
    split at q
    · rename_i h
      refine ⟨i, by rw [show x = _ from rx], log_small (by omega), ?_⟩
      rw [num_text h.1]
      exact q.now rfl
    · exact q.elim
  | _ => exact q.elim
def gOrd : D → R Ev
  | .str [c] => .ok (.cl, .int c)
  | _ => .bad
theorem cg_ord {K : PySem.W.Frag} : CallG K (fun xs H Q => ∃ x, xs = [.str x] ∧ x.length = 1 ∧ Q (.int (x.cps.getD 0 0 : Nat)) H) gOrd := by
  intro hid own H Wx x dx Q hb rx q
  unfold gOrd at q
  split at q
  · rename_i c
    exact ⟨S [c], by rw [show x = _ from rx], S_len _, q.now rfl⟩
  · exact q.elim
def unI : List D → Option (List Int)
  | [] => some []
  | .int i :: r => (unI r).map fun s => i :: s
  | _ => none
theorem unI_some : ∀ {ds : List D} {ns : List Int}, unI ds = some ns → ds = ns.map D.int
  | [], _, h => by cases h; rfl
  | .int i :: r, ns, h => by
    unfold unI at h
    cases q : unI r with
    | none => rw [q] at h; cases h
    | some s => rw [q] at h; cases h; rw [unI_some q]; rfl
  | .non :: _, _, h => nomatch h
  | .bl _ :: _, _, h => nomatch h
  | .str _ :: _, _, h => nomatch h
  | .tup _ :: _, _, h => nomatch h
  | .lst _ :: _, _, h => nomatch h
  | .rol _ :: _, _, h => nomatch h
@[simp] theorem unI_map (ns : List Int) : unI (ns.map D.int) = some ns := by
  induction ns with
  | nil => rfl
  | cons n r ih => rw [List.map_cons]; unfold unI; rw [ih]; rfl
def unB : List D → Option (List Bool)
  | [] => some []
  | .bl i :: r => (unB r).map fun s => i :: s
  | _ => none
theorem unB_some : ∀ {ds : List D} {ns : List Bool}, unB ds = some ns → ds = ns.map D.bl
  | [], _, h => by cases h; rfl
  | .bl i :: r, ns, h => by
    unfold unB at h
    cases q : unB r with
    | none => rw [q] at h; cases h
    | some s => rw [q] at h; cases h; rw [unB_some q]; rfl
  | .non :: _, _, h => nomatch h
  | .int _ :: _, _, h => nomatch h
  | .str _ :: _, _, h => nomatch h
  | .tup _ :: _, _, h => nomatch h
  | .lst _ :: _, _, h => nomatch h
  | .rol _ :: _, _, h => nomatch h
@[simp] theorem unB_map (ns : List Bool) : unB (ns.map D.bl) = some ns := by
  induction ns with
  | nil => rfl
  | cons n r ih => rw [List.map_cons]; unfold unB; rw [ih]; rfl
def unS : List D → Option (List (List Nat))
  | [] => some []
  | .str i :: r => (unS r).map fun s => i :: s
  | _ => none
theorem unS_some : ∀ {ds : List D} {ns : List (List Nat)}, unS ds = some ns → ds = ns.map D.str
  | [], _, h => by cases h; rfl
  | .str i :: r, ns, h => by
    unfold unS at h
    cases q : unS r with
    | none => rw [q] at h; cases h
    | some s => rw [q] at h; cases h; rw [unS_some q]; rfl
  | .non :: _, _, h => nomatch h
  | .int _ :: _, _, h => nomatch h
  | .bl _ :: _, _, h => nomatch h
  | .tup _ :: _, _, h => nomatch h
  | .lst _ :: _, _, h => nomatch h
  | .rol _ :: _, _, h => nomatch h
@[simp] theorem unS_map (ns : List (List Nat)) : unS (ns.map D.str) = some ns := by
  induction ns with
  | nil => rfl
  | cons n r ih => rw [List.map_cons]; unfold unS; rw [ih]; rfl
def gSum : D → R Ev
  | .lst ds => match unI ds with | some ns => .ok (.cl, .int ns.sum) | none => .bad
  | _ => .bad
theorem cg_sum {K : PySem.W.Frag} : CallG K (rSum K) gSum := by
  intro hid own H Wx x dx Q hb rx q
  cases dx with
  | lst ds =>
    have q : Post K hid own H Wx (match unI ds with | some ns => .ok (.cl, .int ns.sum) | none => .bad) Q := q
    cases e : unI ds with
    | none => rw [e] at q; exact q.elim
    | some ns =>
      rw [e] at q
      obtain ⟨a, vs, h1, h2, h3⟩ := rx
      subst h1
      rw [unI_some e] at h3
      exact ⟨a, ns, rfl, by rw [← h3.ints]; exact SqL.of (hd_le _ _ h2), q.now rfl⟩
  | _ => exact q.elim
def gAllAny (all : Bool) : D → R Ev
  | .lst ds => match unB ds with | some ns => .ok (.cl, .bl (if all then ns.all id else ns.any id)) | none => .bad
  | _ => .bad
theorem cg_all {K : PySem.W.Frag} : CallG K (rAll K) (gAllAny true) := by
  intro hid own H Wx x dx Q hb rx q
  cases dx with
  | lst ds =>
    have q : Post K hid own H Wx (match unB ds with | some ns => .ok (.cl, .bl (ns.all id)) | none => .bad) Q := q
    cases e : unB ds with
    | none => rw [e] at q; exact q.elim
    | some ns =>
      rw [e] at q
      obtain ⟨a, vs, h1, h2, h3⟩ := rx
      subst h1
      rw [unB_some e] at h3
      exact ⟨a, ns, rfl, by rw [← h3.bls]; exact SqL.of (hd_le _ _ h2), q.now rfl⟩
  | _ => exact q.elim
theorem cg_any {K : PySem.W.Frag} : CallG K (rAny K) (gAllAny false) := by
  intro hid own H Wx x dx Q hb rx q
  cases dx with
  | lst ds =>
    have q : Post K hid own H Wx (match unB ds with | some ns => .ok (.cl, .bl (ns.any id)) | none => .bad) Q := q
    cases e : unB ds with
    | none => rw [e] at q; exact q.elim
    | some ns =>
      rw [e] at q
      obtain ⟨a, vs, h1, h2, h3⟩ := rx
      subst h1
      rw [unB_some e] at h3
      exact ⟨a, ns, rfl, by rw [← h3.bls]; exact SqL.of (hd_le _ _ h2), q.now rfl⟩
  | _ => exact q.elim
def gList : D → R Ev
  | .lst ds => .ok (.fr, .lst ds)
  | .tup ds => .ok (.fr, .lst ds)
  | .rol ds => .ok (.fr, .lst ds)
  | _ => .bad
theorem cg_list {K : PySem.W.Frag} : CallG K (fun xs H Q => ∃ p ys, xs = [.ref p] ∧ (SqL K H p ys ∨ SqT K H p ys) ∧ ∀ l, H l = none → Q (.ref l) (upd H l (.lst ys))) gList := by
  intro hid own H Wx x dx Q hb rx q
  cases dx with
  | lst ds =>
    obtain ⟨a, vs, h1, h2, h3⟩ := rx
    subst h1
    exact ⟨a, vs, rfl, .inl (SqL.of (hd_le _ _ h2)), fun l nl => q.newL nl (no_dom hb nl) h3⟩
  | tup ds =>
    obtain ⟨a, vs, h1, h2, h3⟩ := rx
    subst h1
    exact ⟨a, vs, rfl, .inr (same_seqT hd_le h2), fun l nl => q.newL nl (no_dom hb nl) h3⟩
  | rol ds =>
    obtain ⟨a, vs, h1, h2, h3⟩ := rx
    subst h1
    exact ⟨a, vs, rfl, .inl (hd_le.seq h2), fun l nl => q.newL nl (no_dom hb nl) h3⟩
  | _ => exact q.elim
def gTuple : D → R Ev
  | .lst ds => .ok (.cl, .tup ds)
  | .tup ds => .ok (.cl, .tup ds)
  | _ => .bad
theorem cg_tuple {K : PySem.W.Frag} : CallG K (fun xs H Q => ∃ p ys, xs = [.ref p] ∧ ((SqL K H p ys ∧ ∀ l, H l = none → Q (.ref l) (upd H l (.tup ys))) ∨ (SqT K H p ys ∧ Q (.ref p) H))) gTuple := by
  intro hid own H Wx x dx Q hb rx q
  cases dx with
  | lst ds =>
    obtain ⟨a, vs, h1, h2, h3⟩ := rx
    subst h1
    exact ⟨a, vs, rfl, .inl ⟨SqL.of (hd_le _ _ h2), fun l nl => q.newT nl (no_dom hb nl) h3⟩⟩
  | tup ds =>
    obtain ⟨a, vs, h1, h2, h3⟩ := rx
    subst h1
    exact ⟨a, vs, rfl, .inr ⟨same_seqT hd_le h2, q.now ⟨a, vs, rfl, h2, h3⟩⟩⟩
  | _ => exact q.elim
def gMax2 : D → D → R Ev
  | .int i, .int j => .ok (.cl, .int (if j > i then j else i))
  | _, _ => .bad
theorem cg_max2 {K : PySem.W.Frag} : CallG2 K (fun xs H Q => ∃ i j, xs = [.int i, .int j] ∧ Q (.int (if j > i then j else i)) H) gMax2 := by
  intro hid own H Wx x y dx dy Q hb rx ry q
  unfold gMax2 at q
  split at q
  · exact ⟨_, _, by rw [show x = _ from rx, show y = _ from ry], q.now rfl⟩
  · exact q.elim
/-- isinstance(x, T), T a built-in class -/
def dty : D → String
  | .non => "NoneType"
  | .bl _ => "bool"
  | .int _ => "int"
  | .str _ => "str"
  | .tup _ => "tuple"
  | .lst _ => "list"
  | .rol _ => "list"
def inst (n : String) (d : D) : Bool := dty d == n || (dty d == "bool" && n == "int")
def eIsi (n : String) (fa : EF) : EF := op1 (fun d => .ok (.cl, .bl (inst n d))) fa
theorem kit_all (n : String) (h : kitB "NoneType" n = some ("NoneType" == n || ("NoneType" == "bool" && n == "int")) ∧ kitB "bool" n = some ("bool" == n || ("bool" == "bool" && n == "int")) ∧ kitB "int" n = some ("int" == n || ("int" == "bool" && n == "int")) ∧
    kitB "str" n = some ("str" == n || ("str" == "bool" && n == "int")) ∧ kitB "tuple" n = some ("tuple" == n || ("tuple" == "bool" && n == "int")) ∧ kitB "list" n = some ("list" == n || ("list" == "bool" && n == "int"))) : ∀ d, kitB (dty d) n = some (inst n d) := by
  obtain ⟨h1, h2, h3, h4, h5, h6⟩ := h
  intro d
  cases d with
  | non => exact h1
  | bl _ => exact h2
  | int _ => exact h3
  | str _ => exact h4
  | tup _ => exact h5
  | lst _ => exact h6
  | rol _ => exact h6
theorem tyx_of {K : PySem.W.Frag} {hid : Addr → Prop} {own : Own} {H : Hp} : ∀ {d : D} {v : V}, RT K hid own H d v → TyX K H v (.type (dty d)) := by
  intro d v h
  cases d with
  | non => cases (show _ = _ from h); exact .base .non
  | bl b => cases (show _ = _ from h); exact .base (.bl _)
  | int b => cases (show _ = _ from h); exact .base (.int _)
  | str b => cases (show _ = _ from h); exact .base (.str _)
  | tup b =>
    obtain ⟨a, vs, h1, h2, _⟩ := h
    subst h1
    rcases same_seqT hd_le h2 with (h2 | ⟨o, h2⟩) | ⟨o, its, n, h2, h3, _⟩
    · exact .base (.tup h2)
    · exact .fTuple h2
    · exact .kTuple h2 h3
  | lst b => obtain ⟨a, vs, h1, h2, _⟩ := h; subst h1; exact .base (.lst (hd_le _ _ h2))
  | rol b =>
    obtain ⟨a, vs, h1, h2, _⟩ := h
    subst h1
    rcases hd_le.seq h2 with (h2 | ⟨o, h2⟩) | ⟨o, its, n, h2, h3, _⟩
    · exact .base (.lst h2)
    · exact .base (.frz h2)
    · exact .kList h2 h3
section
variable {X : Cx} {W : WX} {e : Expr} {fa : EF} {p pos q : Pos}
theorem de_isi (n : String) {y : Str} (hk : ∀ d, kitB (dty d) n = some (inst n d)) (hg : Gl X "isinstance") (hm : X.mg "isinstance" = none) (hv : bootBuiltins "isinstance" = some (.builtin "isinstance")) (ha : DE X W e fa)
    (hy : Gl X y) (hmy : X.mg y = none) (hvy : bootBuiltins y = some (.type n)) (hs : starEach [e, .Name y q] X.env = (false, eval e X.env) :: starEach [.Name y q] X.env := by rfl)
    (hny : y ≠ "__name__" := by decide) (hdy : (y == ("__debug__" : Str)) = false := by decide) : DE X W (.Call (.Name "isinstance" p) [e, .Name y q] [] pos) (eIsi n fa) := by
  refine imp_pe (pe_callB call_isi hg hm hv (pa_cons ha (pa_cons (pe_bltn (v := .ty n) hy hmy hvy rfl hny hdy) pa_nil) hs) (by decide) (by decide) hs rfl) fun σ H Q ⟨hid, own, ρ, hS, h⟩ => ?_
  refine ⟨hid, own, ρ, hS, Post.part h fun x H1 v s1 r1 h1 => ?_⟩
  exact ⟨v, .ty n, _, _, inst n x.2, rfl, .ty n, tyx_of r1.rt, kit_ty (hk x.2), Post.now (K := X.K) h1 rfl⟩
end
end PL
set_option Elab.async false
set_option linter.all false
set_option maxRecDepth 100000
set_option maxHeartbeats 4000000
/-! PL4: methods of texts, subscripts, slices, displays, f-strings, calls of defs. -/
namespace PL
open PySem PySem.Spec L2

theorem RV.fwd {K : PySem.W.Frag} {hid : Addr → Prop} {own : Own} {H H1 H2 : Hp} (s : Same H1 H2) : ∀ {k : Kd} {d : D} {v : V}, RV K hid own H H1 k d v → RV K hid own H H2 k d v
  | .pk, _, _, h => RT.mono s h
  | .cl, _, _, h => Rp.mono (hd_same s) _ _ h
  | .fr, d, _, ⟨a, e, n, nb, m⟩ => by
    refine ⟨a, e, n, nb, ?_⟩
    cases d with
    | lst ds =>
      obtain ⟨vs, e1, e2⟩ := m
      exact ⟨vs, s _ _ e1, RpL.mono (hd_same s) _ _ e2⟩
    | _ => exact m.elim

/-! ### methods of texts with one argument -/
def mth1 (g : D → D → R Ev) (fa fb : EF) : EF := fun ρ => (fa ρ).bind fun x => if isS x.2 = true then (fb ρ).bind fun y => g x.2 y.2 else .bad
def MthG (K : PySem.W.Frag) (r : V → List V → Hp → VK → Prop) (g : D → D → R Ev) : Prop := ∀ {hid own H Wx a y dy Q}, (∀ b, ob hid own b → H b ≠ none) → RT K hid own H dy y → Post K hid own H Wx (g (.str a) dy) Q → r (.str (S a)) [y] H Q
theorem isS_of {d : D} (h : isS d = true) : ∃ a, d = .str a := by
  cases d with
  | str a => exact ⟨a, rfl⟩
  | _ => exact absurd (show false = true from h) Bool.false_ne_true
section
variable {X : Cx} {W : WX} {o e : Expr} {fa fb : EF} {apos pos : Pos} {r : V → List V → Hp → VK → Prop} {g : D → D → R Ev}
theorem de_m1 {id : String} {name : Str} (slot : Slot "str" name id) (ty : typeOf (.builtin id) = pure (.type "method_descriptor")) (rule : MtR X id r) (hg : MthG X.K r g) (ho : DE X W o fa) (he : DE X W e fb)
    (hs : starEach [e] X.env = [(false, eval e X.env)] := by rfl) (hbase : attributeBase o name X.env (eval o X.env) = eval o X.env := by rfl) (hline : (apos.endLine == pos.line) = true := by rfl) :
    DE X W (.Call (.Attribute o name apos) [e] [] pos) (mth1 g fa fb) := by
  refine imp_pe (pe_m1 slot ty rule ho he hs hbase hline) fun σ H Q ⟨hid, own, ρ, hS, h⟩ => ⟨hid, own, ρ, hS, Post.part h fun x H1 v s1 r1 h1 => ?_⟩
  by_cases c : isS x.2 = true
  · rw [if_pos c] at h1
    obtain ⟨a, ea⟩ := isS_of c
    have rt := r1.rt
    rw [ea] at rt h1
    cases (show v = _ from rt)
    exact ⟨⟨_, rfl⟩, hid, own, ρ, hS.mono s1, Post.part h1 fun y H2 u s2 r2 h2 => hg ((hS.mono s1).mono s2).dom r2.rt h2⟩
  · rw [if_neg c] at h1; exact h1.elim
end
def all256 (b : List Nat) : Bool := b.all (· < 256)
theorem kind_S {a b : List Nat} (h : all256 b = true) : ¬ Builtin.Str.strKind (S a) < Builtin.Str.strKind (S b) := TL.kind_ok (by
  show (S b).cps.all (· < 256) = true
  simpa [S, all256] using h)
def gSplit : D → D → R Ev
  | .str a, .str b => if a.length + 2 ≤ 16777216 ∧ b ≠ [] ∧ all256 b = true then .ok (.fr, .lst ((TL.spl b 0 [] a).map D.str)) else .bad
  | _, _ => .bad
theorem split_S {a b : List Nat} (h1 : b ≠ []) (h2 : all256 b = true) : Txt.split (S a) (S b) = (TL.spl b 0 [] a).map S := by
  refine TL.map_tl_inj ?_
  rw [TL.split_spl _ _ (by rw [show TL.tl (S b) = b from S_cps b]; exact h1) (kind_S h2), show TL.tl (S b) = b from S_cps b, show TL.tl (S a) = a from S_cps a, List.map_map]
  conv => lhs; rw [← List.map_id (TL.spl b 0 [] a)]
  exact List.map_congr_left fun x _ => (S_cps x).symm
theorem mg_split {K : PySem.W.Frag} : MthG K (fun x xs H Q => ∃ a b, x = .str a ∧ xs = [.str b] ∧ (b.length == 0) = false ∧ a.length + 2 ≤ sizeLine ∧ rNewStrs (Txt.split a b) H Q) gSplit := by
  intro hid own H Wx a y dy Q hb ry q
  cases dy with
  | str b =>
    have q : Post K hid own H Wx (if a.length + 2 ≤ 16777216 ∧ b ≠ [] ∧ all256 b = true then .ok (.fr, .lst ((TL.spl b 0 [] a).map D.str)) else .bad) Q := q
    split at q
    · rename_i h
      cases (show y = _ from ry)
      refine ⟨_, _, rfl, rfl, ?_, by rw [S_len, sizeLine_eq]; exact h.1, fun p np => ?_⟩
      · rw [S_len, beq_eq_false_iff_ne]
        exact fun z => h.2.1 (List.length_eq_zero_iff.mp z)
      · rw [split_S h.2.1 h.2.2]
        exact q.newL np (no_dom hb np) (RpL.of_strs _)
    · exact q.elim
  | _ => exact q.elim
def gPart : D → D → R Ev
  | .str a, .str b => if a.length ≤ 16777216 ∧ b ≠ [] then .ok (.cl, match TL.par b [] a with
      | some (p, q) => .tup [.str p, .str b, .str q]
      | none => .tup [.str a, .str [], .str []]) else .bad
  | _, _ => .bad
theorem mg_part {K : PySem.W.Frag} : MthG K (fun x xs H Q => ∃ a b, x = .str a ∧ xs = [.str b] ∧ (b.length == 0) = false ∧ a.length ≤ sizeLine ∧
      ∀ p, H p = none → Q (.ref p) (upd H p (.tup [.str (Txt.partition a b).1, .str (Txt.partition a b).2.1, .str (Txt.partition a b).2.2]))) gPart := by
  intro hid own H Wx a y dy Q hb ry q
  cases dy with
  | str b =>
    have q : Post K hid own H Wx (if a.length ≤ 16777216 ∧ b ≠ [] then .ok (.cl, match TL.par b [] a with
      | some (p, q) => .tup [.str p, .str b, .str q]
      | none => .tup [.str a, .str [], .str []]) else .bad) Q := q
    split at q
    · rename_i h
      cases (show y = _ from ry)
      refine ⟨_, _, rfl, rfl, ?_, by rw [S_len, sizeLine_eq]; exact h.1, fun p np => ?_⟩
      · rw [S_len, beq_eq_false_iff_ne]
        exact fun z => h.2 (List.length_eq_zero_iff.mp z)
      · rw [TL.partition_par _ _ (by rw [show TL.tl (S b) = b from S_cps b]; exact h.2), show TL.tl (S b) = b from S_cps b, show TL.tl (S a) = a from S_cps a]
        cases e : TL.par b [] a with
        | none => rw [e] at q; exact q.newT np (no_dom hb np) ⟨_, _, rfl, rfl, _, _, rfl, rfl, _, _, rfl, rfl, rfl⟩
        | some z =>
          obtain ⟨z1, z2⟩ := z
          rw [e] at q
          exact q.newT np (no_dom hb np) ⟨_, _, rfl, rfl, _, _, rfl, rfl, _, _, rfl, rfl, rfl⟩
    · exact q.elim
  | _ => exact q.elim
def joinSize (a : List Nat) (ns : List (List Nat)) : Nat := (ns.map List.length).sum + ns.length * a.length
def joinR (a : List Nat) (ds : List D) : R Ev := match unS ds with
  | some ns => if joinSize a ns ≤ 16777216 then .ok (.cl, .str (TL.joinL a ns)) else .bad
  | none => .bad
def gJoin : D → D → R Ev
  | .str a, .lst ds => joinR a ds
  | .str a, .tup ds => joinR a ds
  | _, _ => .bad
theorem join_S (a : List Nat) (ns : List (List Nat)) : Txt.join (S a) (ns.map S) = S (TL.joinL a ns) := by
  rw [TL.join_eq]
  refine TL.ext_tl ?_
  rw [TL.tl_join, List.map_map, show TL.tl (S a) = a from S_cps a, show TL.tl (S (TL.joinL a ns)) = _ from S_cps _]
  have e : List.map (TL.tl ∘ S) ns = ns := by
    conv => rhs; rw [← List.map_id ns]
    exact List.map_congr_left fun x _ => S_cps x
  rw [e]
theorem sum_S (ns : List (List Nat)) : ((ns.map S).map (·.length)).sum = (ns.map List.length).sum := by
  rw [List.map_map]
  exact congrArg List.sum (List.map_congr_left fun x _ => S_len x)
theorem mg_join {K : PySem.W.Frag} : MthG K (fun x xs H Q => ∃ a p, ∃ ys : List Str, x = .str a ∧ xs = [.ref p] ∧ (SqL K H p (ys.map V.str) ∨ SqT K H p (ys.map V.str)) ∧
      (ys.map (·.length)).sum + ys.length * a.length ≤ 16777216 ∧ Q (.str (Txt.join a ys)) H) gJoin := by
  intro hid own H Wx a y dy Q hb ry q
  have fin : ∀ (ds : List D) (vs : List V) (p : Addr), Post K hid own H Wx (joinR a ds) Q → RpL K (hd H (ob hid own)) ds vs → y = .ref p → (SqL K H p vs ∨ SqT K H p vs) → ∃ a' p, ∃ ys : List Str, V.str (S a) = .str a' ∧ [y] = [.ref p] ∧ (SqL K H p (ys.map V.str) ∨ SqT K H p (ys.map V.str)) ∧
      (ys.map (·.length)).sum + ys.length * a'.length ≤ 16777216 ∧ Q (.str (Txt.join a' ys)) H := fun ds vs p q r e h => by
    unfold joinR at q
    cases en : unS ds with
    | none => rw [en] at q; exact q.elim
    | some ns =>
      rw [en] at q
      have q : Post K hid own H Wx (if joinSize a ns ≤ 16777216 then .ok (.cl, .str (TL.joinL a ns)) else .bad) Q := q
      split at q
      · rename_i hz
        rw [unS_some en] at r
        rw [r.strs] at h
        refine ⟨S a, p, ns.map S, rfl, by rw [e], h, ?_, ?_⟩
        · rw [sum_S, List.length_map, S_len]; exact hz
        · rw [join_S]; exact q.now rfl
      · exact q.elim
  cases dy with
  | lst ds =>
    obtain ⟨p, vs, h1, h2, h3⟩ := ry
    exact fin ds vs p q h3 h1 (.inl (SqL.of (hd_le _ _ h2)))
  | tup ds =>
    obtain ⟨p, vs, h1, h2, h3⟩ := ry
    exact fin ds vs p q h3 h1 (.inr (same_seqT hd_le h2))
  | _ => exact q.elim
section
variable {X : Cx} {W : WX} {o e : Expr} {fa fb : EF} {apos pos : Pos}
theorem de_split (ho : DE X W o fa) (he : DE X W e fb) (hs : starEach [e] X.env = [(false, eval e X.env)] := by rfl) (hbase : attributeBase o "split" X.env (eval o X.env) = eval o X.env := by rfl) (hline : (apos.endLine == pos.line) = true := by rfl) :
    DE X W (.Call (.Attribute o "split" apos) [e] [] pos) (mth1 gSplit fa fb) := de_m1 F.slot_str_split F.type_str_split mt_split mg_split ho he hs hbase hline
theorem de_part (ho : DE X W o fa) (he : DE X W e fb) (hs : starEach [e] X.env = [(false, eval e X.env)] := by rfl) (hbase : attributeBase o "partition" X.env (eval o X.env) = eval o X.env := by rfl) (hline : (apos.endLine == pos.line) = true := by rfl) :
    DE X W (.Call (.Attribute o "partition" apos) [e] [] pos) (mth1 gPart fa fb) := de_m1 F.slot_str_partition F.type_str_partition mt_partition mg_part ho he hs hbase hline
theorem de_join (ho : DE X W o fa) (he : DE X W e fb) (hs : starEach [e] X.env = [(false, eval e X.env)] := by rfl) (hbase : attributeBase o "join" X.env (eval o X.env) = eval o X.env := by rfl) (hline : (apos.endLine == pos.line) = true := by rfl) :
    DE X W (.Call (.Attribute o "join" apos) [e] [] pos) (mth1 gJoin fa fb) := de_m1 F.slot_str_join F.type_str_join mt_join mg_join ho he hs hbase hline
end

/-! ### subscripts, slices -/
def gIx : D → D → R Ev
  | .lst ds, .int i => match atI ds i with | some d => .ok (.cl, d) | none => .bad
  | .rol ds, .int i => match atI ds i with | some d => .ok (.cl, d) | none => .bad
  | .tup ds, .int i => match atI ds i with | some d => .ok (.cl, d) | none => .bad
  | .str z, .int i => if z.length ≤ 16777216 then (match atI z i with | some c => .ok (.cl, .str [c]) | none => .bad) else .bad
  | _, _ => .bad
theorem atI_rp {K : PySem.W.Frag} {H : Hp} {ds : List D} {vs : List V} {i : Int} {d : D} (r : RpL K H ds vs) (h : atI ds i = some d) : ∃ v, atI vs i = some v ∧ Rp K H d v := by
  unfold atI at h ⊢
  rw [r.len]
  cases e : ixN ds.length i with
  | none => rw [e] at h; cases h
  | some j => rw [e] at h; exact r.get h
theorem opg_ix {K : PySem.W.Frag} : OpG K (rIx K) gIx := by
  intro hid own H Wx x y dx dy Q hb rx ry q
  have key : ∀ (ds : List D) (vs : List V) (i : Int), Post K hid own H Wx (match atI ds i with | some d => .ok (.cl, d) | none => .bad) Q → RpL K (hd H (ob hid own)) ds vs → ∃ v, atI vs i = some v ∧ Q v H := fun ds vs i q r => by
    cases e : atI ds i with
    | none => rw [e] at q; exact q.elim
    | some d =>
      rw [e] at q
      obtain ⟨v, e1, e2⟩ := atI_rp r e
      exact ⟨v, e1, q.now e2⟩
  cases dy with
  | int i =>
    cases (show y = _ from ry)
    cases dx with
    | lst ds =>
      obtain ⟨a, vs, h1, h2, h3⟩ := rx
      obtain ⟨v, e1, e2⟩ := key ds vs i q h3
      exact .inl ⟨a, vs, i, v, h1, rfl, SqL.of (hd_le _ _ h2), e1, e2⟩
    | rol ds =>
      obtain ⟨a, vs, h1, h2, h3⟩ := rx
      obtain ⟨v, e1, e2⟩ := key ds vs i q h3
      exact .inl ⟨a, vs, i, v, h1, rfl, hd_le.seq h2, e1, e2⟩
    | tup ds =>
      obtain ⟨a, vs, h1, h2, h3⟩ := rx
      obtain ⟨v, e1, e2⟩ := key ds vs i q h3
      exact .inr (.inl ⟨a, vs, i, v, h1, rfl, same_seqT hd_le h2, e1, e2⟩)
    | str z =>
      have q : Post K hid own H Wx (if z.length ≤ 16777216 then (match atI z i with | some c => .ok (.cl, .str [c]) | none => .bad) else .bad) Q := q
      split at q
      · rename_i hz
        cases e : atI z i with
        | none => rw [e] at q; exact q.elim
        | some c =>
          rw [e] at q
          exact .inr (.inr ⟨S z, i, c, rx, rfl, by rw [S_len, sizeLine_eq]; exact hz, by rw [S_cps]; exact e, q.now rfl⟩)
      · exact q.elim
    | _ => exact q.elim
  | _ => cases dx <;> exact q.elim
section
variable {X : Cx} {W : WX} {a b : Expr} {fa fb : EF} {pos : Pos}
theorem de_ix (ha : DE X W a fa) (hb : DE X W b fb) (hs : PlainIx b := by intro _ _; rfl) : DE X W (.Subscript a b pos) (op2 gIx fa fb) := imp_pe (pe_ix ix_seq ha hb hs) (two opg_ix)
end
abbrev OF := Ro → R (Option Int)
def tO (K : PySem.W.Frag) (mg : Str → Option Value) (W : WX) (f : OF) : TO := fun σ H Q => ∃ hid own ρ, SR K hid own H ρ σ ∧ match f ρ with
  | .ok o => ∀ H', Same H H' → Q o H'
  | .exc c => ∀ H', Same H H' → Wc mg W σ c H'
  | .bad => False
theorem imp_po {X : Cx} {e : Option Expr} {t t' : TO} (h : PO X e t) (k : ∀ σ H Q, t' σ H Q → t σ H Q) : PO X e t' := ⟨fun pins s σ H Q I q => h.run pins s σ H Q I (k _ _ _ q)⟩
abbrev DO (X : Cx) (W : WX) (e : Option Expr) (f : OF) : Prop := PO X e (tO X.K X.mg W f)
def oNo : OF := fun _ => .ok none
def oSome (fa : EF) : OF := fun ρ => (fa ρ).bind fun x => match x.2 with | .int i => .ok (some i) | _ => .bad
section
variable {X : Cx} {W : WX} {e : Expr} {fa : EF} {lo hi : Option Expr} {fl fh : OF} {pos p2 : Pos}
theorem do_none : DO X W none oNo := imp_po po_none fun σ H Q ⟨hid, own, ρ, hS, h⟩ => h H (Same.refl _)
theorem do_some (h : DE X W e fa) : DO X W (some e) (oSome fa) := by
  refine imp_po (po_some h) fun σ H Q ⟨hid, own, ρ, hS, q⟩ => ⟨hid, own, ρ, hS, ?_⟩
  unfold oSome at q
  cases e1 : fa ρ with
  | ok x =>
    rw [e1] at q
    obtain ⟨k, d⟩ := x
    intro H1 v s1 r1
    cases d with
    | int i => exact ⟨i, r1.rt, q H1 s1⟩
    | _ => exact q.elim
  | exc c => rw [e1] at q; exact q
  | bad => rw [e1] at q; exact q
def cutL {α : Type} (xs : List α) (lo hi : Option Int) : List α := (xs.drop (HT.sIx xs.length 0 lo)).take (HT.sIx xs.length xs.length hi - HT.sIx xs.length 0 lo)
def gSl : D → Option Int → Option Int → R Ev
  | .str z, lo, hi => if z.length ≤ 16777216 then .ok (.cl, .str (cutL z lo hi)) else .bad
  | .lst ds, lo, hi => .ok (.fr, .lst (cutL ds lo hi))
  | .tup ds, lo, hi => .ok (.cl, .tup (cutL ds lo hi))
  | _, _, _ => .bad
def eSl (fa : EF) (fl fh : OF) : EF := fun ρ => (fa ρ).bind fun x => (fl ρ).bind fun l => (fh ρ).bind fun h => gSl x.2 l h
theorem cut_S (z : List Nat) (lo hi : Option Int) : cutS (S z) lo hi = S (cutL z lo hi) := by
  unfold cutS cutL
  rw [S_len, S_cps] <;> rfl
theorem cut_rp {K : PySem.W.Frag} {H : Hp} {ds : List D} {vs : List V} (r : RpL K H ds vs) (lo hi : Option Int) : RpL K H (cutL ds lo hi) (cutV vs lo hi) := by
  unfold cutL cutV
  rw [r.len]
  exact (r.drop _).take _
theorem cut_all {α : Type} {xs : List α} {lo hi : Option Int} (h : HT.sIx xs.length 0 lo = 0 ∧ HT.sIx xs.length xs.length hi = xs.length) : cutL xs lo hi = xs := by
  unfold cutL
  rw [h.1, h.2, List.drop_zero, Nat.sub_zero, List.take_length]
theorem slR_any : SlR X (fun x lo hi H Q => rSlS x lo hi H Q ∨ rSlL X.K x lo hi H Q ∨ rSlA X.K x lo hi H Q) := sl_str.or (sl_list.or sl_tupA)
theorem de_slice (ha : DE X W e fa) (hl : DO X W lo fl) (hh : DO X W hi fh) : DE X W (.Subscript e (.Slice lo hi none p2) pos) (eSl fa fl fh) := by
  refine imp_pe (pe_slice slR_any ha hl hh) fun σ H Q ⟨hid, own, ρ, hS, h⟩ => ⟨hid, own, ρ, hS, Post.part h fun x H1 v s1 r1 h1 => ⟨hid, own, ρ, hS.mono s1, ?_⟩⟩
  cases e1 : fl ρ with
  | exc c => rw [e1] at h1; exact h1
  | bad => rw [e1] at h1; exact h1
  | ok l =>
    rw [e1] at h1
    have h1 : Post X.K hid own H1 (Wc X.mg W σ) ((fh ρ).bind fun h => gSl x.2 l h) Q := h1
    intro H2 s2
    refine ⟨hid, own, ρ, (hS.mono s1).mono s2, ?_⟩
    cases e2 : fh ρ with
    | exc c => rw [e2] at h1; exact fun H3 s3 => h1 H3 (s2.trans s3)
    | bad => rw [e2] at h1; exact h1
    | ok h =>
      rw [e2] at h1
      have h1 : Post X.K hid own H1 (Wc X.mg W σ) (gSl x.2 l h) Q := h1
      intro H3 s3
      have S3 := ((hS.mono s1).mono s2).mono s3
      have rt : RT X.K hid own H3 x.2 v := (r1.rt.mono s2).mono s3
      have h3 := Post.mono (s2.trans s3) h1
      obtain ⟨k, d⟩ := x
      cases d with
      | str z =>
        have h3 : Post X.K hid own H3 (Wc X.mg W σ) (if z.length ≤ 16777216 then .ok (.cl, .str (cutL z l h)) else .bad) Q := h3
        split at h3
        · rename_i hz
          exact .inl ⟨S z, rt, by rw [S_len, sizeLine_eq]; exact hz, by rw [cut_S]; exact h3.now rfl⟩
        · exact h3.elim
      | lst ds =>
        obtain ⟨a, vs, q1, q2, q3⟩ := rt
        exact .inr (.inl ⟨a, vs, q1, SqL.of (hd_le _ _ q2), fun p np => h3.newL np (no_dom S3.dom np) (cut_rp q3 l h)⟩)
      | tup ds =>
        obtain ⟨a, vs, q1, q2, q3⟩ := rt
        refine .inr (.inr ⟨a, vs, q1, same_seqT hd_le q2, fun w => ?_, fun w p np => h3.newT np (no_dom S3.dom np) (cut_rp q3 l h)⟩)
        rw [q3.len] at w
        have h3 : Post X.K hid own H3 (Wc X.mg W σ) (.ok (.cl, .tup (cutL ds l h))) Q := h3
        rw [cut_all w] at h3
        exact h3.now ⟨a, vs, rfl, q2, q3⟩
      | _ => exact h3.elim
/-- xs[::-1] -/
def eRev (fa : EF) : EF := op1 (fun d => match d with | .lst ds => .ok (.fr, .lst ds.reverse) | _ => .bad) fa
theorem de_rev {k : Nat} {p1 p3 : Pos} (ha : DE X W e fa) : DE X W (.Subscript e (.Slice none none (some (.UnaryOp .USub (.Constant (.int 1) k p1) p2)) p3) pos) (eRev fa) := by
  refine imp_pe (pe_revL ha) fun σ H Q ⟨hid, own, ρ, hS, h⟩ => ⟨hid, own, ρ, hS, Post.part h fun x H1 v s1 r1 h1 => ?_⟩
  obtain ⟨k, d⟩ := x
  cases d with
  | lst ds =>
    obtain ⟨a, vs, q1, q2, q3⟩ := r1.rt
    exact ⟨a, vs, q1, SqL.of (hd_le _ _ q2), fun p np => Post.newL (K := X.K) h1 np ((hS.mono s1).vis np) q3.rev⟩
  | _ => exact h1.elim
end

/-! ### arguments and displays -/
def aNil : AF := fun _ => .ok []
def aCons (fa : EF) (fs : AF) : AF := fun ρ => (fa ρ).bind fun e => (fs ρ).bind fun es => .ok (e :: es)
section
variable {X : Cx} {W : WX} {e : Expr} {es : List Expr} {fa : EF} {fs : AF} {pos : Pos}
theorem da_nil : DA X W [] aNil := imp_pa pa_nil fun σ H Q ⟨hid, own, ρ, hS, h⟩ => h H [] (Same.refl _) hS.dom rfl
theorem da_cons (ha : DE X W e fa) (hr : DA X W es fs) (hs : starEach (e :: es) X.env = (false, eval e X.env) :: starEach es X.env := by rfl) : DA X W (e :: es) (aCons fa fs) := by
  refine imp_pa (pa_cons ha hr hs) fun σ H Q ⟨hid, own, ρ, hS, h⟩ => ⟨hid, own, ρ, hS, ?_⟩
  unfold aCons at h
  cases e1 : fa ρ with
  | exc c => rw [e1] at h; exact h
  | bad => rw [e1] at h; exact h
  | ok x =>
    rw [e1] at h
    intro H1 v s1 r1
    refine ⟨hid, own, ρ, hS.mono s1, ?_⟩
    have h : PostA X.K hid own H (Wc X.mg W σ) ((fs ρ).bind fun es => .ok (x :: es)) Q := h
    cases e2 : fs ρ with
    | exc c => rw [e2] at h; exact fun H2 s2 => h H2 (s1.trans s2)
    | bad => rw [e2] at h; exact h
    | ok ys =>
      rw [e2] at h
      intro H2 vs s2 d2 r2
      exact h H2 (v :: vs) (s1.trans s2) d2 ⟨v, vs, rfl, r1.fwd s2, r2.base s1⟩
theorem RVs.clean {K : PySem.W.Frag} {hid : Addr → Prop} {own : Own} {H H' : Hp} : ∀ {es : List Ev} {vs : List V}, es.all okE = true → RVs K hid own H H' es vs → RpL K (hd H' (ob hid own)) (es.map (·.2)) vs
  | [], _, _, h => h
  | (k, d) :: es, _, o, ⟨v, r, e, a, b⟩ => by
    rw [List.all_cons, Bool.and_eq_true] at o
    exact ⟨v, r, e, a.clean o.1, RVs.clean o.2 b⟩
theorem RVs.len {K : PySem.W.Frag} {hid : Addr → Prop} {own : Own} {H H' : Hp} : ∀ {es : List Ev} {vs : List V}, RVs K hid own H H' es vs → vs.length = es.length
  | [], _, h => by rw [show _ = _ from h]; rfl
  | _ :: _, _, ⟨v, r, e, a, b⟩ => by rw [e, List.length_cons, List.length_cons, RVs.len b]
def disp (mk : List D → Ev) (fs : AF) : EF := fun ρ => (fs ρ).bind fun es => if es.all okE = true ∧ es.length ≤ 16777216 then .ok (mk (es.map (·.2))) else .bad
theorem disp_part {σ : L2.St} {H : Hp} {Q : VK} {mk : List D → Ev} {T : List V → Hp → Prop} {hid : Addr → Prop} {own : Own} {ρ : Ro} (h : Post X.K hid own H (Wc X.mg W σ) (disp mk fs ρ) Q)
    (k : ∀ ds vs H1, Same H H1 → (∀ b, ob hid own b → H1 b ≠ none) → RpL X.K (hd H1 (ob hid own)) ds vs → vs.length ≤ sizeLine → Post X.K hid own H1 (Wc X.mg W σ) (.ok (mk ds)) Q → T vs H1) : PostA X.K hid own H (Wc X.mg W σ) (fs ρ) T := by
  unfold disp at h
  cases e : fs ρ with
  | exc c => rw [e] at h; exact h
  | bad => rw [e] at h; exact h
  | ok es =>
    rw [e] at h
    intro H1 vs s1 d1 r1
    have h : Post X.K hid own H (Wc X.mg W σ) (if es.all okE = true ∧ es.length ≤ 16777216 then .ok (mk (es.map (·.2))) else .bad) Q := h
    split at h
    · rename_i c
      exact k _ vs H1 s1 d1 (r1.clean c.1) (by rw [r1.len, sizeLine_eq]; exact c.2) (Post.mono s1 h)
    · exact h.elim
theorem de_lst (h : DA X W es fs) : DE X W (.List es pos) (disp (fun ds => (.fr, .lst ds)) fs) :=
  imp_pe (pe_lst h) fun σ H Q ⟨hid, own, ρ, hS, q⟩ => ⟨hid, own, ρ, hS, disp_part q fun ds vs H1 s1 d1 r z q1 => ⟨z, fun p np => q1.newL np (no_dom d1 np) r⟩⟩
theorem de_tup {x1 : Nat} (h : DA X W es fs) : DE X W (.Tuple es x1 pos) (disp (fun ds => (.cl, .tup ds)) fs) :=
  imp_pe (pe_tup h) fun σ H Q ⟨hid, own, ρ, hS, q⟩ => ⟨hid, own, ρ, hS, disp_part q fun ds vs H1 s1 d1 r z q1 => ⟨z, fun p np => q1.newT np (no_dom d1 np) r⟩⟩
end

/-! ### f-strings -/
def fFmt (fa : EF) : EF := op1 (fun d => match d with
  | .str a => if a.length ≤ 16777216 then .ok (.cl, .str a) else .bad
  | .int i => if 0 ≤ i ∧ i < 2 ^ 64 then .ok (.cl, .str (TL.numL i.toNat)) else .bad
  | _ => .bad) fa
inductive DJ (X : Cx) (W : WX) : List Expr → List EF → Prop where
  | nil : DJ X W [] []
  | cons {e : Expr} {f : EF} {es : List Expr} {fs : List EF} (h : DE X W e f) (r : DJ X W es fs) : DJ X W (e :: es) (f :: fs)
def eFs : List EF → List Nat → EF
  | [], acc => fun _ => .ok (.cl, .str acc)
  | f :: fs, acc => fun ρ => (f ρ).bind fun x => match x.2 with
    | .str y => if (acc ++ y).length ≤ 16777216 then eFs fs (acc ++ y) ρ else .bad
    | _ => .bad
section
variable {X : Cx} {W : WX} {e : Expr} {fa : EF} {pos : Pos}
theorem de_fmt (he : DE X W e fa) : DE X W (.FormattedValue e (-1) none pos) (fFmt fa) := by
  refine imp_pe (pe_fmt he) fun σ H Q ⟨hid, own, ρ, hS, h⟩ => ⟨hid, own, ρ, hS, Post.part h fun x H1 v s1 r1 h1 => ?_⟩
  obtain ⟨k, d⟩ := x
  have rt := r1.rt
  cases d with
  | str a =>
    have h1 : Post X.K hid own H1 (Wc X.mg W σ) (if a.length ≤ 16777216 then .ok (.cl, .str a) else .bad) Q := h1
    split at h1
    · rename_i hz
      exact .inl ⟨S a, rt, by rw [S_len, sizeLine_eq]; exact hz, h1.now rfl⟩
    · exact h1.elim
  | int i =>
    have h1 : Post X.K hid own H1 (Wc X.mg W σ) (if 0 ≤ i ∧ i < 2 ^ 64 then .ok (.cl, .str (TL.numL i.toNat)) else .bad) Q := h1
    split at h1
    · rename_i hz
      exact .inr ⟨i, rt, log_small (by omega), by rw [num_text hz.1]; exact h1.now rfl⟩
    · exact h1.elim
  | _ => exact h1.elim
theorem DJ.pj {es : List Expr} {fs : List EF} (h : DJ X W es fs) : PJ X es (fs.map (tE X.K X.mg W)) := by
  induction h with
  | nil => exact .nil
  | cons h r ih => exact .cons h ih
theorem tjs_of : ∀ (fs : List EF) (acc : List Nat) (σ : L2.St) (H : Hp) (Q : VK), tE X.K X.mg W (eFs fs acc) σ H Q → tJs (fs.map (tE X.K X.mg W)) (S acc) σ H fun out H1 => Q (.str out) H1
  | [], acc, σ, H, Q, ⟨hid, own, ρ, hS, h⟩ => Post.now (K := X.K) h rfl
  | f :: fs, acc, σ, H, Q, ⟨hid, own, ρ, hS, h⟩ => by
    refine ⟨hid, own, ρ, hS, Post.part h fun x H1 v s1 r1 h1 => ?_⟩
    obtain ⟨k, d⟩ := x
    have rt := r1.rt
    cases d with
    | str y =>
      have h1 : Post X.K hid own H1 (Wc X.mg W σ) (if (acc ++ y).length ≤ 16777216 then eFs fs (acc ++ y) ρ else .bad) Q := h1
      split at h1
      · rename_i hz
        refine ⟨S y, rt, by rw [S_app, S_len, sizeLine_eq]; exact hz, ?_⟩
        rw [S_app]
        exact tjs_of fs (acc ++ y) σ H1 Q ⟨hid, own, ρ, hS.mono s1, h1⟩
      · exact h1.elim
    | _ => exact h1.elim
theorem de_fs {v1 v2 : Expr} {rest : List Expr} {fs : List EF} (h : DJ X W (v1 :: v2 :: rest) fs) : DE X W (.JoinedStr (v1 :: v2 :: rest) pos) (eFs fs []) :=
  imp_pe (pe_joined h.pj) fun σ H Q q => tjs_of fs [] σ H Q q
end

/-! ### a def's promise, its calls -/
mutual
def noL : D → Bool
  | .tup xs => noLs xs
  | .lst _ => false
  | .rol _ => false
  | _ => true
def noLs : List D → Bool
  | [] => true
  | x :: xs => noL x && noLs xs
end
/-- what comes back holds no list that was handed in -/
def noLE : Ev → Bool
  | (.fr, .lst ds) => noLs ds
  | (_, d) => noL d
abbrev FD := List D → R Ev
def spD (K : PySem.W.Frag) (mg : Str → Option Value) (n : Nat) (f : FD) : Sp := fun vs H Q E => ∃ hid ds, (∀ b, hid b → H b ≠ none) ∧ RpL K (hd H hid) ds vs ∧ ds.length = n ∧ Post K hid noOwn H (fun c H' => ∀ C, mg c = some (.ref C) → E (.ref C) none H') (f ds) Q
def pkL : Ev → Bool
  | (.pk, d) => isL d
  | _ => false
def eCall (f : FD) (n : Nat) (fs : AF) : EF := fun ρ => (fs ρ).bind fun es => if es.length = n then (if es.any pkL = true then (f (es.map (·.2))).bind (fun r => if noLE r = true then .ok r else .bad) else f (es.map (·.2))) else .bad
theorem pkL_ok {e : Ev} (h : pkL e = false) : okE e = true := by
  obtain ⟨k, d⟩ := e
  cases k with
  | pk => exact (by simpa [pkL, okE] using h)
  | cl => rfl
  | fr => rfl
mutual
theorem noL_rp {K : PySem.W.Frag} {H : Hp} {P P' : Addr → Prop} (h : ∀ b, P' b → ¬ P b → ∃ xs, H b = some (.lst xs)) : ∀ (d : D) (v : V), noL d = true → Rp K (hd H P) d v → Rp K (hd H P') d v
  | .non, _, _, r => r
  | .bl _, _, _, r => r
  | .int _, _, _, r => r
  | .str _, _, _, r => r
  | .tup xs, _, n, ⟨a, vs, h1, h2, h3⟩ => by
    refine ⟨a, vs, h1, ?_, noLs_rp h xs vs n h3⟩
    have go : ∀ o : HO, hd H P a = some o → (∀ xs, o ≠ .lst xs) → hd H P' a = some o := fun o e no => by
      obtain ⟨e1, e2⟩ := hd_some.mp e
      refine hd_some.mpr ⟨fun z => ?_, e2⟩
      obtain ⟨xs, e3⟩ := h a z e1
      rw [e2] at e3
      exact no xs (Option.some.inj e3)
    rcases h2 with (h2 | ⟨o, h2⟩) | h2
    · exact .inl (.inl (go _ h2 fun _ z => nomatch z))
    · exact .inl (.inr ⟨o, go _ h2 fun _ z => nomatch z⟩)
    · exact .inr h2
  | .lst _, _, n, _ => absurd (show false = true from n) Bool.false_ne_true
  | .rol _, _, n, _ => absurd (show false = true from n) Bool.false_ne_true
theorem noLs_rp {K : PySem.W.Frag} {H : Hp} {P P' : Addr → Prop} (h : ∀ b, P' b → ¬ P b → ∃ xs, H b = some (.lst xs)) : ∀ (ds : List D) (vs : List V), noLs ds = true → RpL K (hd H P) ds vs → RpL K (hd H P') ds vs
  | [], _, _, r => r
  | d :: ds, _, n, ⟨v, r, h1, h2, h3⟩ => by
    have n : (noL d && noLs ds) = true := n
    rw [Bool.and_eq_true] at n
    exact ⟨v, r, h1, noL_rp h d v n.1 h2, noLs_rp h ds r n.2 h3⟩
end
theorem RVs.rp {K : PySem.W.Frag} {hid : Addr → Prop} {own : Own} {H H' : Hp} : ∀ {es : List Ev} {vs : List V}, RVs K hid own H H' es vs → RpL K (hd H' hid) (es.map (·.2)) vs
  | [], _, h => h
  | _ :: es, _, ⟨v, r, e, a, b⟩ => ⟨v, r, e, a.rt.rp, RVs.rp b⟩
theorem ob_assoc {hid : Addr → Prop} {own : Own} {b : Addr} : ob (ob hid own) noOwn b ↔ ob hid own b := ob_no
section
variable {X : Cx} {W : WX} {k : Nat} {f : Addr} {fd : FuncData} {ps : List Str} {x : Str} {p pos : Pos} {e : Expr} {es : List Expr} {fs : AF} {F : FD} {n : Nat}
theorem post_ob {K : PySem.W.Frag} {hid : Addr → Prop} {own : Own} {H : Hp} {Wx Wx' : Str → Hp → Prop} {r : R Ev} {Q : VK} (hw : ∀ c H', Wx c H' → Wx' c H') (h : Post K hid own H Wx r Q) : Post K (ob hid own) noOwn H Wx' r Q := by
  cases r with
  | bad => exact h
  | exc c => exact fun H' s => hw c H' (h H' s)
  | ok e =>
    intro H' v s q
    refine h H' v s ?_
    obtain ⟨k, d⟩ := e
    cases k with
    | cl => exact Rp.mono (hd_mono fun b o e n => ⟨e, fun z => n (ob_no.mpr z)⟩) _ _ q
    | fr =>
      obtain ⟨a, e1, e2, e3, m⟩ := q
      exact ⟨a, e1, e2, fun z => e3 (ob_no.mpr z), m.mono (hd_mono fun b o e n => ⟨e, fun z => n (z.elim (fun z => .inl (ob_no.mpr z)) .inr)⟩)⟩
    | pk =>
      cases d with
      | lst ds =>
        obtain ⟨a, vs, e1, e2, e3⟩ := q
        exact ⟨a, vs, e1, hd_ob_hid _ _ e2, RpL.mono (hd_mono fun b o e n => ⟨e, fun z => n (ob_no.mpr z)⟩) _ _ e3⟩
      | non => exact q
      | bl _ => exact q
      | int _ => exact q
      | str _ => exact q
      | tup _ => exact Rp.mono (hd_mono fun b o e n => ⟨e, fun z => n (ob_no.mpr z)⟩) _ _ q
      | rol _ => exact Rp.mono (hd_mono fun b o e n => ⟨e, fun z => n (ob_no.mpr z)⟩) _ _ q
theorem de_call (G : FnOk X.prog X.w X.K X.mg X.base (L2.CX X.prog X.w) k f fd ps (spD X.K X.mg n F)) (hr : Room k X.A) (hg : Gl X x) (hm : X.mg x = some (.ref f)) (hk : PySem.W.keepIn X.K (.ref f) = true) (hb : Binds X.K fd ps []) (tk : Takes X W)
    (ha : DA X W (e :: es) fs) (hdb : (x == ("__debug__" : Str)) = false := by decide) (he : starEach (e :: es) X.env = (false, eval e X.env) :: starEach es X.env := by rfl) (hpl : (backTo pos (starEach es X.env)).any (·.1) = false := by rfl) :
    DE X W (.Call (.Name x p) (e :: es) [] pos) (eCall F n fs) := by
  refine imp_pe (pe_callS G hr hg hm hk hb (fun σ => passAt tk σ) ha hdb he hpl) fun σ H Q ⟨hid, own, ρ, hS, h⟩ => ⟨hid, own, ρ, hS, ?_⟩
  unfold eCall at h
  cases q : fs ρ with
  | exc c => rw [q] at h; exact h
  | bad => rw [q] at h; exact h
  | ok ys =>
    rw [q] at h
    intro H1 vs s1 d1 r1
    have S1 := hS.mono s1
    have h : Post X.K hid own H (Wc X.mg W σ) (if ys.length = n then (if ys.any pkL = true then (F (ys.map (·.2))).bind (fun r => if noLE r = true then .ok r else .bad) else F (ys.map (·.2))) else .bad) Q := h
    split at h
    · rename_i hn
      split at h
      · refine ⟨hid, ys.map (·.2), fun b z => d1 b (.inl z), r1.rp, by rw [List.length_map]; exact hn, ?_⟩
        have h := Post.mono s1 h
        cases e1 : F (ys.map (·.2)) with
        | bad => rw [e1] at h; exact h
        | exc c => rw [e1] at h; exact h
        | ok r =>
          rw [e1] at h
          intro H2 v s2 r2
          have h : Post X.K hid own H1 (Wc X.mg W σ) (if noLE r = true then .ok r else .bad) Q := h
          split at h
          · rename_i nl
            refine h H2 v s2 ?_
            have oL : ∀ b, ob hid own b → ¬ ob hid noOwn b → ∃ xs, H2 b = some (.lst xs) := fun b z nz => by
              rcases z with z | ⟨i, z⟩
              · exact absurd (ob_no.mpr z) nz
              · obtain ⟨_, ⟨xs, z2⟩, _⟩ := S1.oh i b z
                exact ⟨xs, s2 _ _ z2⟩
            obtain ⟨k, d⟩ := r
            cases k with
            | cl => exact noL_rp oL d v nl r2
            | pk => exact RT.of_cl (noL_rp oL d v nl (RT.cl (by cases d <;> first | rfl | exact absurd (show false = true from nl) Bool.false_ne_true) r2))
            | fr =>
              obtain ⟨a, w1, w2, w3, m⟩ := r2
              have na : ¬ ob hid own a := fun z => d1 a z w2
              refine ⟨a, w1, w2, na, ?_⟩
              cases d with
              | lst ds =>
                obtain ⟨us, m1, m2⟩ := m
                refine ⟨us, m1, noLs_rp (fun b z nz => ?_) ds us nl m2⟩
                rcases z with z | z
                · exact oL b z fun w => nz (.inl w)
                · exact absurd (.inr z) nz
              | _ => exact m.elim
          · exact h.elim
      · rename_i hp
        have ok : ys.all okE = true := by
          rw [List.all_eq_true]
          intro y hy
          have hp' : ys.any pkL = false := by simpa using hp
          rw [List.any_eq_false] at hp'
          exact pkL_ok (by simpa using hp' y hy)
        exact ⟨ob hid own, ys.map (·.2), d1, r1.clean ok, by rw [List.length_map]; exact hn, post_ob (fun c H' z => z) (Post.mono s1 h)⟩
    · exact h.elim
end
end PL
set_option Elab.async false
set_option linter.all false
set_option maxRecDepth 100000
set_option maxHeartbeats 4000000
/-! PL5: what is walked, targets, list comprehensions. -/
namespace PL
open PySem PySem.Spec L2

/-- the walk J gives ds, as long as what is seen in Hl stands; the items are seen in Hc -/
def ItOk (K : PySem.W.Frag) (J : It) (ds : List D) (Hl Hc : Hp) : Prop := ∀ (i : Nat) (H : Hp) (P : Addr → Prop), Same Hl H → Same Hc (hd H P) → (∀ b, P b → H b ≠ none) →
  (i = ds.length → J.stop i H) ∧ ∀ d, ds[i]? = some d → J.go i H ∧ ∀ x H', J.yld i H x H' → Same H H' ∧ Rp K (hd H' P) d x
abbrev IF := Ro → R (Bool × List D)
/-- where the walked thing stands -/
noncomputable def lvl (hid : Addr → Prop) (own : Own) (H : Hp) : Bool → Hp
  | true => hd H hid
  | false => hd H (ob hid own)
def PostI (K : PySem.W.Frag) (hid : Addr → Prop) (own : Own) (H : Hp) (Wx : Str → Hp → Prop) (r : R (Bool × List D)) (Rr : It → Hp → Prop) : Prop :=
  match r with
  | .ok p => ∀ H1 J, Same H H1 → ItOk K J p.2 (lvl hid own H1 p.1) (hd H1 (ob hid own)) → Rr J H1
  | .exc c => ∀ H', Same H H' → Wx c H'
  | .bad => False
def tI (K : PySem.W.Frag) (mg : Str → Option Value) (W : WX) (f : IF) : TI := fun σ H R => ∃ hid own ρ, SR K hid own H ρ σ ∧ PostI K hid own H (Wc mg W σ) (f ρ) R
abbrev DI (X : Cx) (W : WX) (tg e : Expr) (f : IF) : Prop := PI X tg e (tI X.K X.mg W f)
theorem imp_pi {X : Cx} {tg e : Expr} {t t' : TI} (h : PI X tg e t) (k : ∀ σ H Q, t' σ H Q → t σ H Q) : PI X tg e t' := ⟨fun pins s σ H R I q => h.run pins s σ H R I (k _ _ _ q)⟩
theorem or_pi {X : Cx} {tg e : Expr} {t t' : TI} (h : PI X tg e t) (h' : PI X tg e t') : PI X tg e (fun σ H R => t σ H R ∨ t' σ H R) := ⟨fun pins s σ H R I q => q.elim (h.run pins s σ H R I) (h'.run pins s σ H R I)⟩
theorem PostI.part {K : PySem.W.Frag} {hid : Addr → Prop} {own : Own} {H : Hp} {Wx : Str → Hp → Prop} {r : R Ev} {g : Ev → R (Bool × List D)} {Rr : It → Hp → Prop} {T : VK} (h : PostI K hid own H Wx (r.bind g) Rr)
    (k : ∀ e H1 v, Same H H1 → RV K hid own H H1 e.1 e.2 v → PostI K hid own H1 Wx (g e) Rr → T v H1) : Post K hid own H Wx r T := by
  cases r with
  | ok e =>
    intro H1 v s q
    refine k e H1 v s q ?_
    have h : PostI K hid own H Wx (g e) Rr := h
    cases e2 : g e with
    | ok p => rw [e2] at h; exact fun H2 J s2 i => h H2 J (s.trans s2) i
    | exc c => rw [e2] at h; exact fun H2 s2 => h H2 (s.trans s2)
    | bad => rw [e2] at h; exact h
  | exc c => exact h
  | bad => exact h
section
variable {K : PySem.W.Frag}
theorem it_list {a : Addr} {ds : List D} {vs : List V} {Hl Hc : Hp} (hl : SqL K Hl a vs) (hc : RpL K Hc ds vs) (uniq : ∀ (H : Hp) (xs : List V), Same Hl H → SqL K H a xs → xs = vs) : ItOk K (Itl K a) ds Hl Hc := fun i H P sl sc dom =>
  ⟨fun e => ⟨vs, sl.seq hl, by rw [hc.len, e]; exact Nat.le_refl _⟩, fun d hd => by
    obtain ⟨v, e1, e2⟩ := hc.get hd
    refine ⟨⟨vs, v, sl.seq hl, e1⟩, fun x H' ⟨eH, y⟩ => ?_⟩
    subst eH
    have e3 := y vs (sl.seq hl)
    rw [e1] at e3
    cases e3
    exact ⟨Same.refl _, Rp.mono sc _ _ e2⟩⟩
end
theorem Rd.uniq {H : Hp} {a : Addr} {xs ys : List V} (h : Rd H a (.lst xs)) (h' : Rd H a (.lst ys)) : xs = ys := by
  rcases h with h | ⟨o, h⟩ <;> rcases h' with h' | ⟨o', h'⟩ <;> rw [h] at h' <;> cases h' <;> rfl
def iVal (fa : EF) : IF := fun ρ => (fa ρ).bind fun x => match x.2 with
  | .lst ds => .ok (decide (x.1 = .pk), ds)
  | .rol ds => .ok (false, ds)
  | .tup ds => .ok (false, ds)
  | .str z => .ok (false, z.map fun c => D.str [c])
  | _ => .bad
theorem it_list2 {K : PySem.W.Frag} {a : Addr} {ds : List D} {vs : List V} {Hl Hc : Hp} (hl : SqL K Hl a vs) (hc : RpL K Hc ds vs) : ItOk K (Itl K a) ds Hl Hc := fun i H P sl sc dom =>
  ⟨fun e => ⟨vs, sl.seq hl, by rw [hc.len, e]; exact Nat.le_refl _⟩, fun d hd => by
    obtain ⟨v, e1, e2⟩ := hc.get hd
    refine ⟨⟨vs, v, sl.seq hl, e1⟩, fun x H' ⟨eH, y⟩ => ?_⟩
    subst eH
    have e3 := y vs (sl.seq hl)
    rw [e1] at e3
    cases e3
    exact ⟨Same.refl _, Rp.mono sc _ _ e2⟩⟩
theorem it_tup2 {K : PySem.W.Frag} {a : Addr} {ds : List D} {vs : List V} {Hl Hc : Hp} (hl : SqT K Hl a vs) (hc : RpL K Hc ds vs) : ItOk K (Itt K a) ds Hl Hc := fun i H P sl sc dom =>
  ⟨fun e => ⟨vs, same_seqT sl hl, by rw [hc.len, e]; exact Nat.le_refl _⟩, fun d hd => by
    obtain ⟨v, e1, e2⟩ := hc.get hd
    refine ⟨⟨vs, v, same_seqT sl hl, e1⟩, fun x H' ⟨eH, y⟩ => ?_⟩
    subst eH
    have e3 := y vs (same_seqT sl hl)
    rw [e1] at e3
    cases e3
    exact ⟨Same.refl _, Rp.mono sc _ _ e2⟩⟩
theorem it_str {K : PySem.W.Frag} {z : List Nat} {Hl Hc : Hp} : ItOk K (Its (S z)) (z.map fun c => D.str [c]) Hl Hc := fun i H P sl sc dom =>
  ⟨fun e => by
    show (S z).cps.size ≤ i
    rw [e, List.length_map]
    simp [S], fun d hd => by
    have hi : i < z.length := by have := (List.getElem?_eq_some_iff.mp hd).1; rwa [List.length_map] at this
    refine ⟨by show i < (S z).cps.size; simpa [S] using hi, fun x H' ⟨eH, c, e1, e2⟩ => ?_⟩
    subst eH
    refine ⟨Same.refl _, ?_⟩
    rw [List.getElem?_map] at hd
    have e3 : z[i]? = some c := by simpa [S] using e1
    rw [e3] at hd
    cases hd
    exact e2⟩
theorem it_range {K : PySem.W.Frag} {lo : Int} {n : Nat} {Hl Hc : Hp} : ItOk K (Itr lo n) ((List.range n).map fun k : Nat => D.int (lo + k)) Hl Hc := fun i H P sl sc dom =>
  ⟨fun e => by
    show n ≤ i
    rw [e, List.length_map, List.length_range]; exact Nat.le_refl _, fun d hd => by
    have hi : i < n := by have := (List.getElem?_eq_some_iff.mp hd).1; rwa [List.length_map, List.length_range] at this
    refine ⟨hi, fun x H' ⟨eH, ex⟩ => ?_⟩
    subst eH
    refine ⟨Same.refl _, ?_⟩
    rw [List.getElem?_map, List.getElem?_range hi] at hd
    cases hd
    exact ex⟩
/-- the pairs of enumerate -/
def enumD (ds : List D) : List D := ds.zipIdx.map fun p => D.tup [.int (p.2 : Nat), p.1]
theorem enumD_get {ds : List D} {i : Nat} {d : D} (h : (enumD ds)[i]? = some d) : ∃ y, ds[i]? = some y ∧ d = D.tup [.int (i : Nat), y] := by
  unfold enumD at h
  rw [List.getElem?_map, List.getElem?_zipIdx] at h
  cases e : ds[i]? with
  | none => rw [e] at h; cases h
  | some y =>
    rw [e] at h
    refine ⟨y, rfl, ?_⟩
    have := Option.some.inj h
    rw [← this]
    simp
theorem enumD_len (ds : List D) : (enumD ds).length = ds.length := by simp [enumD]
theorem pair_rp {K : PySem.W.Frag} {H : Hp} {P : Addr → Prop} {T : Addr} {i : Int} {y : D} {x : V} (nT : H T = none) (dom : ∀ b, P b → H b ≠ none) (r : Rp K (hd H P) y x) : Rp K (hd (upd H T (.tup [.int i, x])) P) (.tup [.int i, y]) (.ref T) :=
  ⟨T, _, rfl, .inl (.inl (hd_some.mpr ⟨no_dom dom nT, upd_same⟩)), _, _, rfl, rfl, _, _, rfl, Rp.mono (hd_same (sameUpd nT)) _ _ r, rfl⟩
theorem it_enum {K : PySem.W.Frag} {a : Addr} {ds : List D} {vs : List V} {Hl Hc : Hp} (hl : SqL K Hl a vs) (hc : RpL K Hc ds vs) : ItOk K (Ite K a) (enumD ds) Hl Hc := fun i H P sl sc dom =>
  ⟨fun e => ⟨vs, sl.seq hl, by rw [hc.len, e, enumD_len]; exact Nat.le_refl _⟩, fun d hd => by
    obtain ⟨y, ey, ed⟩ := enumD_get hd
    subst ed
    obtain ⟨v, e1, e2⟩ := hc.get ey
    refine ⟨⟨vs, v, sl.seq hl, e1⟩, fun x H' ⟨T, x', ex, nT, eH, q⟩ => ?_⟩
    subst ex eH
    have e3 := q vs (sl.seq hl)
    rw [e1] at e3
    cases e3
    exact ⟨sameUpd nT, pair_rp nT dom (Rp.mono sc _ _ e2)⟩⟩
/-- enumerate of a text -/
def ItS (z : Str) : It := ⟨fun i _ => i < z.cps.size, fun i H v H' => ∃ T c, v = .ref T ∧ H T = none ∧ H' = upd H T (.tup [.int (i : Nat), .str ⟨#[c]⟩]) ∧ z.cps[i]? = some c, fun i _ => i = z.cps.size⟩
theorem it_enumS {K : PySem.W.Frag} {z : List Nat} {Hl Hc : Hp} : ItOk K (ItS (S z)) (enumD (z.map fun c => D.str [c])) Hl Hc := fun i H P sl sc dom =>
  ⟨fun e => by
    show i = (S z).cps.size
    rw [e, enumD_len, List.length_map]
    simp [S], fun d hd => by
    obtain ⟨y, ey, ed⟩ := enumD_get hd
    subst ed
    have hi : i < z.length := by have := (List.getElem?_eq_some_iff.mp ey).1; rwa [List.length_map] at this
    refine ⟨by show i < (S z).cps.size; simpa [S] using hi, fun x H' ⟨T, c, ex, nT, eH, ec⟩ => ?_⟩
    subst ex eH
    rw [List.getElem?_map] at ey
    have e3 : z[i]? = some c := by simpa [S] using ec
    rw [e3] at ey
    cases ey
    exact ⟨sameUpd nT, pair_rp nT dom rfl⟩⟩
theorem turn_enumS {P : Program} {w : World} {K : PySem.W.Frag} {elts : List Expr} {kk : Nat} {tpos : Pos} (e it : Addr) (z : Str) (t : Tok) :
    Turn P w K (.Tuple elts kk tpos) (ItS z) [e, it] e (fun i h => (∃ old, IsEnum h e it ((i : Nat) : Int) old) ∧ h.IsStrIter it (strIterType z) z t i ∧ e ≠ it) where
  mem := List.mem_cons_self
  obj := by
    rintro i h ⟨⟨old, he⟩, ⟨o, ho, hc, hdt⟩, _⟩ b hb
    rcases List.mem_cons.mp hb with q | q
    · rw [q]; exact ⟨_, he, fun v r => nomatch r⟩
    · rw [List.mem_singleton.mp q]; exact ⟨o, ho, fun v r => by rw [hdt] at r; cases r⟩
  keep := by
    rintro i h h' ⟨⟨old, he⟩, ⟨o, ho, r⟩, hne⟩ k
    exact ⟨⟨old, k e (by simp) _ he⟩, ⟨o, k it (by simp) _ ho, r⟩, hne⟩
  item := by
    rintro X rfl rfl rfl hc i pins s σ H E I hf ⟨⟨old, he⟩, hit, hne⟩ hg
    have Dr := Draws.text (prog := X.prog) (w := X.w) (A := X.A.in1) (show X.A.in1.handled = none from I.ok.hd hc) it z t
    have le : e < s.heap.objs.size := Heap.lt_size he
    have li : it < s.heap.objs.size := by obtain ⟨_, q, _⟩ := hit; exact Heap.lt_size q
    refine wpAny_pyNext_enum_itemD Dr he hit hg hne (by simpa using hne) fun x h' tk hx ho hit' hT hsz hk => ?_
    obtain ⟨c, u, hcx, rfl⟩ := hx
    refine ⟨_, rfl, wpAny_letOwnedTupleGo_enum (s := { s with heap := h', toks := tk + 1 }) ho fun h'' he' sb => ?_⟩
    have hT2 := (sb.2 _ (Nat.ne_of_gt le)).trans hT
    have new : ObjOk X.prog X.w (upd H s.heap.objs.size (.tup [.int (i : Nat), .str ⟨#[c]⟩])) h'' s.heap.objs.size (.tup [.int (i : Nat), .str ⟨#[c]⟩]) :=
      ⟨by rw [sizeLine_eq]; exact (by decide : 2 ≤ 16777216), _, .cons ⟨_, rfl⟩ (.cons ⟨_, rfl⟩ .nil), ⟨_, hT2, rfl, _, rfl⟩⟩
    have I1 := I.turnedNew (t' := tk + 1) (ch := [e, it]) (fun b o hb q => (sb.2 b fun r => hb (by simp [r])).trans (hk b o (fun r => hb (by simp [r])) (fun r => hb (by simp [r])) q)) hf (Nat.le_refl _) new
    refine ⟨.ref s.heap.objs.size, _, I1, rfl, ⟨_, c, rfl, I.hok.fresh (Nat.le_refl _), rfl, hcx⟩, ⟨⟨_, by rw [Int.natCast_succ]; exact he'⟩, ?_, hne⟩, fun b hb => ?_⟩
    · obtain ⟨o, q, r⟩ := hit'
      exact ⟨o, (sb.2 it (Ne.symm hne)).trans q, r⟩
    · rw [upd_ne (Nat.ne_of_lt ?_)]
      · exact (hf b hb).1
      · rcases List.mem_cons.mp hb with q | q
        · rw [q]; exact le
        · rw [List.mem_singleton.mp q]; exact li
  done := by
    rintro X rfl rfl rfl hc i pins s σ H E I hf ⟨⟨old, he⟩, hit, hne⟩ hg
    have Dr := Draws.text (prog := X.prog) (w := X.w) (A := X.A.in1) (show X.A.in1.handled = none from I.ok.hd hc) it z t
    obtain ⟨f0, f1, f2, f3, f4, f5⟩ := hf it (by simp)
    have hg : i = z.cps.size := hg
    rw [hg] at hit
    exact wpAny_pyNext_enum_endD Dr he hit fun h' eb => ⟨rfl, I.turned (t' := s.toks) (fun b o hb q => eb b o hb q) f0 f1 f3 f4 f5⟩
  self := by
    rintro A i s Q E ⟨⟨_, he⟩, _⟩ h
    exact wpAny_pyIter_enum he h
def iEnS (ta : TA) : TI := fun σ H R => ta σ H fun vs H1 => ∃ z, vs = [.str z] ∧ R (ItS z) H1
theorem pi_enumS {X : Cx} {e : Expr} {ta : TA} {p pos tpos : Pos} {elts : List Expr} {kk : Nat} (hg : Gl X "enumerate") (hm : X.mg "enumerate" = none) (ha : PA X [e] ta) (hs : starEach [e] X.env = [(false, eval e X.env)] := by rfl) :
    PI X (.Tuple elts kk tpos) (.Call (.Name "enumerate" p) [e] [] pos) (iEnS ta) := by
  refine ⟨fun pins s σ H R I h => PyProof.Rows.Call_ (ld_blt I hg hm PyProof.Rows.boot_enumerate (PyProof.Rows.callWith_type1 (thn (ha.run pos pins s σ H _ I h) fun us s1 hu => ?_) hs rfl))⟩
  obtain ⟨vs, H1, I1, r1, z, ez, q⟩ := hu
  subst ez
  obtain ⟨u, eu, t, et⟩ := vals1 r1
  subst eu et
  refine call_enumerate_str fun h' he hit hsz hk => wpAny_pyIter_enum he ?_
  have I2 : Inv X pins σ H1 { s1 with heap := h' } := I1.kept (t' := s1.toks) hk
  refine ⟨s1.heap.objs.size + 1, [s1.heap.objs.size + 1, s1.heap.objs.size], _, _, H1, rfl, I2, turn_enumS _ _ z t, ⟨⟨_, he⟩, hit, Nat.succ_ne_self _⟩, fun b hb => ?_, q⟩
  have le : s1.heap.objs.size ≤ b := by
    rcases List.mem_cons.mp hb with r | r
    · rw [r]; exact Nat.le_succ _
    · rw [List.mem_singleton.mp r]; exact Nat.le_refl _
  exact I1.fpOk le (I1.hok.fresh le)
section
variable {X : Cx} {W : WX} {tg e e2 : Expr} {fa fb : EF} {p pos : Pos}
theorem lvl_of {K : PySem.W.Frag} {hid : Addr → Prop} {own : Own} {H H1 : Hp} {k : Kd} {ds : List D} {v : V} (h : RV K hid own H H1 k (.lst ds) v) : ∃ a vs, v = .ref a ∧ lvl hid own H1 (decide (k = .pk)) a = some (.lst vs) ∧ RpL K (hd H1 (ob hid own)) ds vs := by
  cases k with
  | pk => exact h
  | cl => exact h
  | fr =>
    obtain ⟨a, e1, e2, e3, vs, e4, e5⟩ := h
    exact ⟨a, vs, e1, hd_some.mpr ⟨e3, e4⟩, RpL.mono (hd_mono fun b o q n => ⟨q, fun z => n (.inl z)⟩) _ _ e5⟩
theorem di_val (ha : DE X W e fa) : DI X W tg e (iVal fa) := by
  refine imp_pi (or_pi (pi_list ha) (or_pi (pi_tup ha) (pi_str ha))) fun σ H Rr ⟨hid, own, ρ, hS, h⟩ => ?_
  unfold iVal at h
  cases e1 : fa ρ with
  | exc c => rw [e1] at h; exact .inl ⟨hid, own, ρ, hS, by rw [e1]; exact h⟩
  | bad => rw [e1] at h; exact h.elim
  | ok x =>
    rw [e1] at h
    obtain ⟨k, d⟩ := x
    cases d with
    | lst ds =>
      refine .inl ⟨hid, own, ρ, hS, ?_⟩
      rw [e1]
      intro H1 v s1 r1
      obtain ⟨a, vs, q1, q2, q3⟩ := lvl_of r1
      exact ⟨a, q1, ⟨vs, by cases k <;> exact SqL.of (hd_le _ _ q2)⟩, h H1 _ s1 (it_list2 (SqL.of q2) q3)⟩
    | rol ds =>
      refine .inl ⟨hid, own, ρ, hS, ?_⟩
      rw [e1]
      intro H1 v s1 r1
      obtain ⟨a, vs, q1, q2, q3⟩ := r1.rt
      exact ⟨a, q1, ⟨vs, hd_le.seq q2⟩, h H1 _ s1 (it_list2 q2 q3)⟩
    | tup ds =>
      refine .inr (.inl ⟨hid, own, ρ, hS, ?_⟩)
      rw [e1]
      intro H1 v s1 r1
      obtain ⟨a, vs, q1, q2, q3⟩ := r1.rt
      exact ⟨a, q1, ⟨vs, same_seqT hd_le q2⟩, h H1 _ s1 (it_tup2 q2 q3)⟩
    | str z =>
      refine .inr (.inr ⟨hid, own, ρ, hS, ?_⟩)
      rw [e1]
      intro H1 v s1 r1
      exact ⟨S z, r1.rt, h H1 _ s1 it_str⟩
    | _ => exact h.elim
def iRng (fa : EF) : IF := fun ρ => (fa ρ).bind fun x => match x.2 with
  | .int j => if -(2 ^ 62) ≤ j ∧ j < 2 ^ 62 then .ok (false, (List.range j.toNat).map fun k : Nat => D.int (0 + k)) else .bad
  | _ => .bad
theorem di_rng (hg : Gl X "range") (hm : X.mg "range" = none) (ha : DE X W e fa) (hs : starEach [e] X.env = [(false, eval e X.env)] := by rfl) : DI X W tg (.Call (.Name "range" p) [e] [] pos) (iRng fa) := by
  refine imp_pi (pi_range1 hg hm (pa_cons ha pa_nil hs) hs) fun σ H Rr ⟨hid, own, ρ, hS, h⟩ => ⟨hid, own, ρ, hS, PostI.part h fun x H1 v s1 r1 h1 => ?_⟩
  obtain ⟨k, d⟩ := x
  cases d with
  | int j =>
    have h1 : PostI X.K hid own H1 (Wc X.mg W σ) (if -(2 ^ 62) ≤ j ∧ j < 2 ^ 62 then .ok (false, (List.range j.toNat).map fun k : Nat => D.int (0 + k)) else .bad) Rr := h1
    split at h1
    · rename_i c
      exact ⟨j, by rw [show v = _ from r1.rt], c.1, c.2, h1 H1 _ (Same.refl _) it_range⟩
    · exact h1.elim
  | _ => exact h1.elim
def iRng2 (fa fb : EF) : IF := fun ρ => (fa ρ).bind fun x => (fb ρ).bind fun y => match x.2, y.2 with
  | .int i, .int j => if (-(2 ^ 62) ≤ i ∧ i < 2 ^ 62) ∧ -(2 ^ 62) ≤ j ∧ j < 2 ^ 62 then .ok (false, (List.range (j - i).toNat).map fun k : Nat => D.int (i + k)) else .bad
  | _, _ => .bad
theorem di_rng2 (hg : Gl X "range") (hm : X.mg "range" = none) (ha : DE X W e fa) (hb : DE X W e2 fb) (hs : starEach [e, e2] X.env = [(false, eval e X.env), (false, eval e2 X.env)] := by rfl) (hs2 : starEach [e2] X.env = [(false, eval e2 X.env)] := by rfl) : DI X W tg (.Call (.Name "range" p) [e, e2] [] pos) (iRng2 fa fb) := by
  refine imp_pi (pi_range2 hg hm (pa_cons ha (pa_cons hb pa_nil hs2) (by rw [hs, hs2])) hs hs2) fun σ H Rr ⟨hid, own, ρ, hS, h⟩ => ⟨hid, own, ρ, hS, PostI.part h fun x H1 v s1 r1 h1 => ⟨hid, own, ρ, hS.mono s1, PostI.part h1 fun y H2 u s2 r2 h2 => ?_⟩⟩
  obtain ⟨k, d⟩ := x
  obtain ⟨k', d'⟩ := y
  cases d with
  | int i =>
    cases d' with
    | int j =>
      have h2 : PostI X.K hid own H2 (Wc X.mg W σ) (if (-(2 ^ 62) ≤ i ∧ i < 2 ^ 62) ∧ -(2 ^ 62) ≤ j ∧ j < 2 ^ 62 then .ok (false, (List.range (j - i).toNat).map fun k : Nat => D.int (i + k)) else .bad) Rr := h2
      split at h2
      · rename_i c
        exact ⟨i, j, by rw [show v = _ from r1.rt, show u = _ from r2.rt], ⟨c.1.1, c.1.2, c.2.1, c.2.2⟩, h2 H2 _ (Same.refl _) it_range⟩
      · exact h2.elim
    | _ => exact h2.elim
  | _ => cases d' <;> exact h2.elim
def iEnum' (fa : EF) : IF := fun ρ => (fa ρ).bind fun x => match x.2 with
  | .lst ds => .ok (decide (x.1 = .pk), enumD ds)
  | .str z => .ok (false, enumD (z.map fun c => D.str [c]))
  | _ => .bad
theorem di_enum {elts : List Expr} {kk : Nat} {tpos : Pos} (hg : Gl X "enumerate") (hm : X.mg "enumerate" = none) (ha : DE X W e fa) (hs : starEach [e] X.env = [(false, eval e X.env)] := by rfl) : DI X W (.Tuple elts kk tpos) (.Call (.Name "enumerate" p) [e] [] pos) (iEnum' fa) := by
  refine imp_pi (or_pi (pi_enum hg hm (pa_cons ha pa_nil hs) hs) (pi_enumS hg hm (pa_cons ha pa_nil hs) hs)) fun σ H Rr ⟨hid, own, ρ, hS, h⟩ => ?_
  unfold iEnum' at h
  cases e1 : fa ρ with
  | exc c => rw [e1] at h; exact .inl ⟨hid, own, ρ, hS, by rw [e1]; exact h⟩
  | bad => rw [e1] at h; exact h.elim
  | ok x =>
    rw [e1] at h
    obtain ⟨k, d⟩ := x
    cases d with
    | lst ds =>
      refine .inl ⟨hid, own, ρ, hS, ?_⟩
      rw [e1]
      intro H1 v s1 r1
      obtain ⟨a, vs, q1, q2, q3⟩ := lvl_of r1
      exact ⟨a, vs, by rw [q1], by cases k <;> exact SqL.of (hd_le _ _ q2), h H1 _ s1 (it_enum (SqL.of q2) q3)⟩
    | str z =>
      refine .inr ⟨hid, own, ρ, hS, ?_⟩
      rw [e1]
      intro H1 v s1 r1
      exact ⟨S z, by rw [show v = _ from r1.rt], h H1 _ s1 it_enumS⟩
    | _ => exact h.elim
end

/-! ### targets -/
abbrev GF := D → Ro → Option Ro
/-- slots outside of ss stay -/
def tG (K : PySem.W.Frag) (ss : List Nat) (g : GF) : TG := fun v σ H Q => ∃ hid own ρ d, SR K hid own H ρ σ ∧ Rp K (hd H (ob hid own)) d v ∧ match g d ρ with
  | some ρ' => ∀ own' σ', SR K hid own' H ρ' σ' → (∀ i a, own' i = some a → own i = some a) → (∀ i a, own i = some a → i ∉ ss → own' i = some a) → (∀ j, j ∉ ss → σ'[j]? = σ[j]?) → σ'.length = σ.length → Q σ' H
  | none => False
def tGs (K : PySem.W.Frag) (ss : List Nat) (g : List D → Ro → Option Ro) : TGs := fun vs σ H Q => ∃ hid own ρ ds, SR K hid own H ρ σ ∧ RpL K (hd H (ob hid own)) ds vs ∧ match g ds ρ with
  | some ρ' => ∀ own' σ', SR K hid own' H ρ' σ' → (∀ i a, own' i = some a → own i = some a) → (∀ i a, own i = some a → i ∉ ss → own' i = some a) → (∀ j, j ∉ ss → σ'[j]? = σ[j]?) → σ'.length = σ.length → Q σ' H
  | none => False
abbrev DG (X : Cx) (tg : Expr) (ss : List Nat) (g : GF) : Prop := PG X tg (tG X.K ss g)
abbrev DGs (X : Cx) (tg : List Expr) (ss : List Nat) (g : List D → Ro → Option Ro) : Prop := PGs X tg (tGs X.K ss g)
theorem imp_pg {X : Cx} {tg : Expr} {t t' : TG} (h : PG X tg t) (k : ∀ v σ H Q, t' v σ H Q → t v σ H Q) : PG X tg t' := ⟨fun pins s σ H v u Q I r q => h.run pins s σ H v u Q I r (k _ _ _ _ q)⟩
theorem imp_pgs {X : Cx} {tg : List Expr} {t t' : TGs} (h : PGs X tg t) (k : ∀ v σ H Q, t' v σ H Q → t v σ H Q) : PGs X tg t' := ⟨fun pins s σ H v u Q I r q => h.run pins s σ H v u Q I r (k _ _ _ _ q)⟩
def gNm (i : Nat) : GF := fun d ρ => if i < ρ.length then some (ρ.set i (some (false, d))) else none
open Classical in
noncomputable def unown (own : Own) (i : Nat) : Own := fun j => if j = i then none else own j
theorem unown_le {own : Own} {i j : Nat} {a : Addr} (h : unown own i j = some a) : own j = some a ∧ j ≠ i := by
  unfold unown at h
  by_cases c : j = i
  · rw [if_pos c] at h; cases h
  · rw [if_neg c] at h; exact ⟨h, c⟩
theorem unown_ne {own : Own} {i j : Nat} (h : j ≠ i) : unown own i j = own j := by unfold unown; rw [if_neg h]
theorem ob_unown {hid : Addr → Prop} {own : Own} {i : Nat} {b : Addr} (h : ob hid (unown own i) b) : ob hid own b := h.elim .inl fun ⟨j, e⟩ => .inr ⟨j, (unown_le e).1⟩
theorem SR.setV {K : PySem.W.Frag} {hid : Addr → Prop} {own : Own} {H : Hp} {ρ : Ro} {σ : L2.St} (h : SR K hid own H ρ σ) {i : Nat} {d : D} {v : V} (r : Rp K (hd H (ob hid own)) d v) : SR K hid (unown own i) H (ρ.set i (some (false, d))) (σ.set i (some v)) := by
  have mono : Same (hd H (ob hid own)) (hd H (ob hid (unown own i))) := hd_mono fun b o e n => ⟨e, fun z => n (ob_unown z)⟩
  refine ⟨by rw [List.length_set, List.length_set]; exact h.len, fun j d' e => ?_, fun j d' e => ?_, fun j k a e1 e2 => h.inj j k a (unown_le e1).1 (unown_le e2).1, fun j a e => ?_, h.hin⟩
  · by_cases c : i = j
    · subst c
      have hl : i < ρ.length := by
        have := (List.getElem?_eq_some_iff.mp e).1
        rwa [List.length_set] at this
      rw [List.getElem?_set_self hl] at e
      cases e
      exact ⟨v, by rw [List.getElem?_set_self (by rw [← h.len]; exact hl)], Rp.mono mono _ _ r⟩
    · rw [List.getElem?_set_ne c] at e ⊢
      obtain ⟨u, e1, e2⟩ := h.val j d' e
      exact ⟨u, e1, Rp.mono mono _ _ e2⟩
  · by_cases c : i = j
    · subst c
      have hl : i < ρ.length := by
        have := (List.getElem?_eq_some_iff.mp e).1
        rwa [List.length_set] at this
      rw [List.getElem?_set_self hl] at e
      cases e
    · rw [List.getElem?_set_ne c] at e ⊢
      obtain ⟨a, e1, e2, e3⟩ := h.ow j d' e
      exact ⟨a, by rw [unown_ne (Ne.symm c)]; exact e1, e2, e3.mono mono⟩
  · obtain ⟨e1, c⟩ := unown_le e
    obtain ⟨h1, h2, d', h3⟩ := h.oh j a e1
    exact ⟨h1, h2, d', by rw [List.getElem?_set_ne (Ne.symm c)]; exact h3⟩
section
variable {X : Cx} {pos : Pos}
theorem dg_name {x : Str} (i : Nat) (hN : X.N.Nodup) (hi : X.N[i]? = some x) (hx : Loc X.env.scope x) (hf : X.fn x = true ∨ X.env.scope.names.lookup x = some .local) : DG X (.Name x pos) [i] (gNm i) := by
  refine imp_pg (pg_name hN hi hx hf) fun v σ H Q ⟨hid, own, ρ, d, hS, r, h⟩ => ?_
  unfold gNm at h
  by_cases c : i < ρ.length
  · rw [if_pos c] at h
    refine h (unown own i) _ (hS.setV r) (fun j a e => (unown_le e).1) (fun j a e hj => by rw [unown_ne (fun z => hj (by simp [z]))]; exact e) (fun j hj => ?_) (by rw [List.length_set])
    rw [List.getElem?_set_ne (fun z => hj (by simp [z]))]
  · rw [if_neg c] at h; exact h.elim
def gsNil : List D → Ro → Option Ro := fun ds ρ => match ds with | [] => some ρ | _ => none
def gsCons (g : GF) (gs : List D → Ro → Option Ro) : List D → Ro → Option Ro := fun ds ρ => match ds with
  | d :: r => (g d ρ).bind fun ρ' => gs r ρ'
  | [] => none
theorem dgs_nil : DGs X [] [] gsNil := by
  refine imp_pgs pgs_nil fun vs σ H Q ⟨hid, own, ρ, ds, hS, r, h⟩ => ?_
  cases ds with
  | nil => exact ⟨r, h own σ hS (fun _ _ e => e) (fun _ _ e _ => e) (fun _ _ => rfl) rfl⟩
  | cons d ds => exact h.elim
theorem dgs_cons {e : Expr} {es : List Expr} {ss ss' : List Nat} {g : GF} {gs : List D → Ro → Option Ro} (h1 : DG X e ss g) (h2 : DGs X es ss' gs) (hs : (assignEach (e :: es) X.env).map (·.2) = assign e X.env :: (assignEach es X.env).map (·.2) := by rfl) : DGs X (e :: es) (ss ++ ss') (gsCons g gs) := by
  refine imp_pgs (pgs_cons h1 h2 hs) fun vs σ H Q ⟨hid, own, ρ, ds, hS, r, h⟩ => ?_
  cases ds with
  | nil => exact h.elim
  | cons d ds =>
    obtain ⟨v, vr, e1, r1, r2⟩ := r
    refine ⟨v, vr, e1, hid, own, ρ, d, hS, r1, ?_⟩
    have h : match (g d ρ).bind (fun ρ' => gs ds ρ') with
      | some ρ' => ∀ own' σ', SR X.K hid own' H ρ' σ' → (∀ i a, own' i = some a → own i = some a) → (∀ i a, own i = some a → i ∉ ss ++ ss' → own' i = some a) → (∀ j, j ∉ ss ++ ss' → σ'[j]? = σ[j]?) → σ'.length = σ.length → Q σ' H
      | none => False := h
    cases e2 : g d ρ with
    | none => rw [e2] at h; exact h.elim
    | some ρ1 =>
      rw [e2] at h
      intro own1 σ1 S1 le1 ge1 k1 l1
      have mono : Same (hd H (ob hid own)) (hd H (ob hid own1)) := hd_mono fun b o e n => ⟨e, fun z => n (z.elim .inl fun ⟨i, q⟩ => .inr ⟨i, le1 i b q⟩)⟩
      refine ⟨hid, own1, ρ1, ds, S1, RpL.mono mono _ _ r2, ?_⟩
      have h : match gs ds ρ1 with
        | some ρ' => ∀ own' σ', SR X.K hid own' H ρ' σ' → (∀ i a, own' i = some a → own i = some a) → (∀ i a, own i = some a → i ∉ ss ++ ss' → own' i = some a) → (∀ j, j ∉ ss ++ ss' → σ'[j]? = σ[j]?) → σ'.length = σ.length → Q σ' H
        | none => False := h
      cases e3 : gs ds ρ1 with
      | none => rw [e3] at h; exact h.elim
      | some ρ2 =>
        rw [e3] at h
        intro own2 σ2 S2 le2 ge2 k2 l2
        exact h own2 σ2 S2 (fun i a e => le1 i a (le2 i a e)) (fun i a e hj => ge2 i a (ge1 i a e fun z => hj (List.mem_append_left _ z)) fun z => hj (List.mem_append_right _ z)) (fun j hj => (k2 j fun z => hj (List.mem_append_right _ z)).trans (k1 j fun z => hj (List.mem_append_left _ z))) (l2.trans l1)
def gTp (n : Nat) (gs : List D → Ro → Option Ro) : GF := fun d ρ => match d with
  | .tup ds => if ds.length = n then gs ds ρ else none
  | _ => none
theorem dg_tup {es : List Expr} {k : Nat} {ss : List Nat} {gs : List D → Ro → Option Ro} {n : Nat} (hc : X.calm = true) (h : DGs X es ss gs) (hn : (assignEach es X.env).length = n := by rfl) (hst : (assignEach es X.env).findIdx? (·.1) = none := by rfl) : DG X (.Tuple es k pos) ss (gTp n gs) := by
  refine imp_pg (pg_tup hc h hn hst) fun v σ H Q ⟨hid, own, ρ, d, hS, r, h⟩ => ?_
  cases d with
  | tup ds =>
    obtain ⟨a, vs, e1, e2, e3⟩ := r
    have h : match (if ds.length = n then gs ds ρ else none) with
      | some ρ' => ∀ own' σ', SR X.K hid own' H ρ' σ' → (∀ i a, own' i = some a → own i = some a) → (∀ i a, own i = some a → i ∉ ss → own' i = some a) → (∀ j, j ∉ ss → σ'[j]? = σ[j]?) → σ'.length = σ.length → Q σ' H
      | none => False := h
    by_cases c : ds.length = n
    · rw [if_pos c] at h
      exact ⟨a, vs, e1, same_seqT hd_le e2, by rw [e3.len]; exact c, hid, own, ρ, ds, hS, e3, h⟩
    · rw [if_neg c] at h; exact h.elim
  | _ => exact h.elim
end
end PL
set_option Elab.async false
set_option linter.all false
set_option maxRecDepth 100000
set_option maxHeartbeats 4000000
/-! PL6: list comprehensions, statements. -/
namespace PL
open PySem PySem.Spec L2

/-! ### a block's slots -/
def wipeR (ρ : Ro) : List Nat → Ro
  | [] => ρ
  | v :: vs => (wipeR ρ vs).set v none
theorem wipeR_len (ρ : Ro) : ∀ vs : List Nat, (wipeR ρ vs).length = ρ.length
  | [] => rfl
  | v :: vs => by unfold wipeR; rw [List.length_set]; exact wipeR_len ρ vs
theorem wipeR_out {ρ : Ro} {i : Nat} : ∀ {vs : List Nat}, i ∉ vs → (wipeR ρ vs)[i]? = ρ[i]?
  | [], _ => rfl
  | v :: vs, h => by
    unfold wipeR
    rw [List.getElem?_set_ne fun e => h (by rw [e]; exact List.mem_cons_self)]
    exact wipeR_out fun m => h (List.mem_cons_of_mem _ m)
theorem wipeR_in {ρ : Ro} {i : Nat} {x : Bool × D} : ∀ {vs : List Nat}, (wipeR ρ vs)[i]? = some (some x) → i ∉ vs ∧ ρ[i]? = some (some x)
  | [], h => ⟨List.not_mem_nil, h⟩
  | v :: vs, h => by
    unfold wipeR at h
    by_cases c : v = i
    · subst c
      by_cases hl : v < (wipeR ρ vs).length
      · rw [List.getElem?_set_self hl] at h; cases h
      · rw [List.getElem?_eq_none (by rw [List.length_set]; omega)] at h; cases h
    · rw [List.getElem?_set_ne c] at h
      obtain ⟨h1, h2⟩ := wipeR_in h
      exact ⟨fun m => (List.mem_cons.mp m).elim (fun z => c z.symm) h1, h2⟩
theorem wipe_out' {σ : L2.St} {i : Nat} {vs : List Nat} (h : i ∉ vs) : (wipe σ vs)[i]? = σ[i]? := wipe_out h
theorem wipe_eq {σ σ' : L2.St} (hl : σ'.length = σ.length) : ∀ {vs : List Nat}, (∀ j, j ∉ vs → σ'[j]? = σ[j]?) → wipe σ' vs = wipe σ vs := fun {vs} h => by
  refine List.ext_getElem? fun j => ?_
  by_cases c : j ∈ vs
  · have k : ∀ (τ : L2.St) (vs : List Nat), j ∈ vs → (wipe τ vs)[j]? = if j < τ.length then some none else none := fun τ vs => by
      induction vs with
      | nil => exact fun z => absurd z List.not_mem_nil
      | cons v vs ih =>
        intro m
        unfold wipe
        by_cases e : v = j
        · subst e
          by_cases hj : v < τ.length
          · rw [List.getElem?_set_self (by rw [wipe_length]; exact hj), if_pos hj]
          · rw [List.getElem?_eq_none (by rw [List.length_set, wipe_length]; omega), if_neg hj]
        · rw [List.getElem?_set_ne e]
          exact ih ((List.mem_cons.mp m).resolve_left fun z => e z.symm)
    rw [k _ _ c, k _ _ c, hl]
  · rw [wipe_out c, wipe_out c]; exact h j c
open Classical in
noncomputable def outOf (own : Own) (vs : List Nat) : Own := fun j => if j ∈ vs then none else own j
theorem outOf_le {own : Own} {vs : List Nat} {j : Nat} {a : Addr} (h : outOf own vs j = some a) : own j = some a ∧ j ∉ vs := by
  unfold outOf at h
  by_cases c : j ∈ vs
  · rw [if_pos c] at h; cases h
  · rw [if_neg c] at h; exact ⟨h, c⟩
theorem outOf_ne {own : Own} {vs : List Nat} {j : Nat} (h : j ∉ vs) : outOf own vs j = own j := by unfold outOf; rw [if_neg h]
/-- what a block does not see: what was not seen outside, the new list, the lists of the names it hides -/
def hidB (hid : Addr → Prop) (own : Own) (vs : List Nat) (D : Addr) (b : Addr) : Prop := hid b ∨ b = D ∨ ∃ i, i ∈ vs ∧ own i = some b
theorem ob_blk {hid : Addr → Prop} {own : Own} {vs : List Nat} {D b : Addr} : ob (hidB hid own vs D) (outOf own vs) b ↔ ob hid own b ∨ b = D := by
  constructor
  · rintro ((h | h | ⟨i, _, h⟩) | ⟨i, h⟩)
    · exact .inl (.inl h)
    · exact .inr h
    · exact .inl (.inr ⟨i, h⟩)
    · exact .inl (.inr ⟨i, (outOf_le h).1⟩)
  · rintro ((h | ⟨i, h⟩) | h)
    · exact .inl (.inl h)
    · by_cases c : i ∈ vs
      · exact .inl (.inr (.inr ⟨i, c, h⟩))
      · exact .inr ⟨i, by rw [outOf_ne c]; exact h⟩
    · exact .inl (.inr (.inl h))
theorem SR.blk {K : PySem.W.Frag} {hid : Addr → Prop} {own : Own} {H1 H : Hp} {ρ : Ro} {σ : L2.St} {D : Addr} (h : SR K hid own H1 ρ σ) (nD : H1 D = none) (s : Same H1 H) (dD : H D ≠ none) (vs : List Nat) :
    SR K (hidB hid own vs D) (outOf own vs) H (wipeR ρ vs) (wipe σ vs) := by
  have mono : Same (hd H1 (ob hid own)) (hd H (ob (hidB hid own vs D) (outOf own vs))) := hd_mono fun b o e n => ⟨s _ _ e, fun z => (ob_blk.mp z).elim n fun z => by rw [z, nD] at e; cases e⟩
  refine ⟨by rw [wipeR_len, wipe_length]; exact h.len, fun i d e => ?_, fun i d e => ?_, fun i j a e1 e2 => h.inj i j a (outOf_le e1).1 (outOf_le e2).1, fun i a e => ?_, fun b hb => ?_⟩
  · obtain ⟨n, e⟩ := wipeR_in e
    obtain ⟨v, e1, e2⟩ := h.val i d e
    exact ⟨v, by rw [wipe_out n]; exact e1, Rp.mono mono _ _ e2⟩
  · obtain ⟨n, e⟩ := wipeR_in e
    obtain ⟨a, e1, e2, e3⟩ := h.ow i d e
    obtain ⟨_, ⟨xs, e4⟩, _⟩ := h.oh i a e1
    refine ⟨a, by rw [outOf_ne n]; exact e1, by rw [wipe_out n]; exact e2, ?_⟩
    rw [s _ _ e4, ← e4]
    exact e3.mono mono
  · obtain ⟨e, n⟩ := outOf_le e
    obtain ⟨h1, ⟨xs, h2⟩, d, h3⟩ := h.oh i a e
    refine ⟨fun z => ?_, ⟨xs, s _ _ h2⟩, d, by rw [wipeR_out n]; exact h3⟩
    rcases z with z | z | ⟨j, m, z⟩
    · exact h1 z
    · rw [z, nD] at h2; cases h2
    · exact n (by rw [h.inj i j a e z]; exact m)
  · rcases hb with z | z | ⟨i, _, z⟩
    · exact fun q => h.hin b z (s.free q)
    · rw [z]; exact dD
    · obtain ⟨_, ⟨xs, h2⟩, _⟩ := h.oh i b z
      rw [s _ _ h2]; exact fun q => nomatch q

/-! ### list comprehensions -/
def lcA (h : D → R (Option D)) : List D → R (List D)
  | [] => .ok []
  | d :: ds => (h d).bind fun o => (lcA h ds).bind fun r => .ok (match o with | some y => y :: r | none => r)
def turnD (g : GF) (tt : TF) (el : EF) (ρ0 : Ro) (d : D) : R (Option D) := match g d ρ0 with
  | none => .bad
  | some ρ1 => (tt ρ1).calm.bind fun b => if b = true then (el ρ1).calm.bind fun e => if okE e = true then .ok (some e.2) else .bad else .ok none
def lcF (f : IF) (vs : List Nat) (g : GF) (tt : TF) (el : EF) : EF := fun ρ => (f ρ).bind fun p => if p.2.length ≤ 16777216 then (lcA (turnD g tt el (wipeR ρ vs)) p.2).calm.bind fun ys => .ok (.fr, .lst ys) else .bad
def tYesF : TF := fun _ => .ok true
abbrev DTs (X : Cx) (W : WX) (ifs : List Expr) (f : TF) : Prop := PTs X ifs (tT X.K X.mg W f)
abbrev W0 : WX := fun _ _ _ _ => False
theorem imp_pts {X : Cx} {e : List Expr} {t t' : TT} (h : PTs X e t) (k : ∀ σ H Q, t' σ H Q → t σ H Q) : PTs X e t' := ⟨fun pins s σ H Q I q => h.run pins s σ H Q I (k _ _ _ q)⟩
section
variable {X : Cx} {W : WX}
theorem dts_nil : DTs X W [] tYesF := imp_pts pts_nil fun σ H Q ⟨hid, own, ρ, hS, h⟩ => h H (Same.refl _)
theorem dts_one {c : Expr} {f : TF} (h : DT X W c f) : DTs X W [c] f := pts_one h
theorem lcA_step {h : D → R (Option D)} {ds : List D} {i : Nat} {d : D} {zs : List D} (e : ds[i]? = some d) (q : lcA h (ds.drop i) = .ok zs) : ∃ o r, h d = .ok o ∧ lcA h (ds.drop (i + 1)) = .ok r ∧ zs = match o with | some y => y :: r | none => r := by
  rw [List.drop_eq_getElem?_toList_append, e] at q
  have q : (h d).bind (fun o => (lcA h (ds.drop (i + 1))).bind fun r => .ok (match o with | some y => y :: r | none => r)) = .ok zs := q
  cases e1 : h d with
  | exc c => rw [e1] at q; cases q
  | bad => rw [e1] at q; cases q
  | ok o =>
    cases e2 : lcA h (ds.drop (i + 1)) with
    | exc c => rw [e1, e2] at q; cases q
    | bad => rw [e1, e2] at q; cases q
    | ok r =>
      rw [e1, e2] at q
      have q := R.ok.inj q
      exact ⟨o, r, rfl, rfl, q.symm⟩
theorem lc_den {g : TG} {tt : TT} {te : TE} {f : IF} {vs ss : List Nat} {gf : GF} {tf : TF} {ef : EF} (hss : ∀ i ∈ ss, i ∈ vs) (hg : g = tG X.K ss gf) (ht : tt = tT X.K X.mg W0 tf) (he : te = tE X.K X.mg W0 ef) {σ : L2.St} {H : Hp} {Q : VK}
    (q : tE X.K X.mg W (lcF f vs gf tf ef) σ H Q) : tLc (tI X.K X.mg W f) g tt te vs σ H Q := by
  subst hg ht he
  obtain ⟨hid, own, ρ, hS, h⟩ := q
  refine ⟨hid, own, ρ, hS, ?_⟩
  unfold lcF at h
  cases e1 : f ρ with
  | exc c => rw [e1] at h; exact h
  | bad => rw [e1] at h; exact h
  | ok p =>
    rw [e1] at h
    intro H1 J s1 it D0 nD
    have S1 := hS.mono s1
    have h : Post X.K hid own H (Wc X.mg W σ) (if p.2.length ≤ 16777216 then (lcA (turnD gf tf ef (wipeR ρ vs)) p.2).calm.bind fun ys => .ok (.fr, .lst ys) else .bad) Q := h
    split at h
    · rename_i hz
      cases e2 : lcA (turnD gf tf ef (wipeR ρ vs)) p.2 with
      | exc c => rw [e2] at h; exact h.elim
      | bad => rw [e2] at h; exact h.elim
      | ok tot =>
        rw [e2] at h
        have h : Post X.K hid own H (Wc X.mg W σ) (.ok (.fr, .lst tot)) Q := h
        refine ⟨fun i m H2 => m = p.2.length - i ∧ i ≤ p.2.length ∧ Same H1 H2 ∧ ∃ ys us zs, H2 D0 = some (.lst us) ∧ RpL X.K (hd H2 fun b => ob hid own b ∨ b = D0) ys us ∧ ys.length ≤ i ∧ lcA (turnD gf tf ef (wipeR ρ vs)) (p.2.drop i) = .ok zs ∧ ys ++ zs = tot,
          ⟨p.2.length, rfl, Nat.zero_le _, sameUpd nD, [], [], tot, upd_same, rfl, Nat.le_refl _, e2, rfl⟩, ?_⟩
        rintro i m H2 ⟨rfl, hi, s2, ys, us, zs, hD, hys, hly, hzs, htot⟩
        have dom : ∀ b, (ob hid own b ∨ b = D0) → H2 b ≠ none := fun b z => z.elim (fun z q => S1.dom b z (s2.free q)) (fun z q => by rw [z, hD] at q; cases q)
        have sl : Same (lvl hid own H1 p.1) H2 := fun b o e => s2 b o (by cases hp : p.1 <;> rw [hp] at e <;> exact hd_le b o e)
        have sc : Same (hd H1 (ob hid own)) (hd H2 fun b => ob hid own b ∨ b = D0) := hd_mono fun b o e n => ⟨s2 b o e, fun z => z.elim n fun z => by rw [z, nD] at e; cases e⟩
        obtain ⟨stop, go⟩ := it i H2 (fun b => ob hid own b ∨ b = D0) sl sc dom
        by_cases hc : i = p.2.length
        · refine .inl ⟨stop hc, ?_⟩
          subst hc
          rw [List.drop_length] at hzs
          have ez : zs = [] := (R.ok.inj hzs).symm
          subst ez
          rw [List.append_nil] at htot
          subst htot
          exact h H2 _ (s1.trans s2) ⟨D0, rfl, s1.free nD, S1.vis nD, us, hD, hys⟩
        · have hlt : i < p.2.length := by omega
          obtain ⟨go1, go2⟩ := go _ (List.getElem?_eq_getElem hlt)
          obtain ⟨o, r, ho, hr, hz2⟩ := lcA_step (List.getElem?_eq_getElem hlt) hzs
          refine .inr ⟨go1, fun H' => Same H1 H' ∧ ∃ ys us zs, H' D0 = some (.lst us) ∧ RpL X.K (hd H' fun b => ob hid own b ∨ b = D0) ys us ∧ ys.length ≤ i + 1 ∧ lcA (turnD gf tf ef (wipeR ρ vs)) (p.2.drop (i + 1)) = .ok zs ∧ ys ++ zs = tot,
            fun H' n => ⟨p.2.length - (i + 1), by omega, rfl, hlt, n⟩, fun x H3 y3 => ?_⟩
          obtain ⟨s3, rx⟩ := go2 x H3 y3
          have S3 : SR X.K (hidB hid own vs D0) (outOf own vs) H3 (wipeR ρ vs) (wipe σ vs) := S1.blk nD (s2.trans s3) (by rw [s3 _ _ hD]; exact fun z => nomatch z) vs
          unfold turnD at ho
          refine ⟨hidB hid own vs D0, outOf own vs, wipeR ρ vs, p.2[i], S3, Rp.mono (hd_mono fun b o e n => ⟨e, fun z => n (ob_blk.mp z)⟩) _ _ rx, ?_⟩
          cases eg : gf p.2[i] (wipeR ρ vs) with
          | none => rw [eg] at ho; cases ho
          | some ρ1 =>
            rw [eg] at ho
            intro own1 σ1 S4 le1 ge1 k1 l1
            refine ⟨wipe_eq (by rw [l1, wipe_length]) (fun j hj => by rw [k1 j (fun z => hj (hss j z)), wipe_out hj]), ?_⟩
            have obs : ∀ b, ob (hidB hid own vs D0) own1 b ↔ ob hid own b ∨ b = D0 := fun b => ⟨fun z => ob_blk.mp (z.elim .inl fun ⟨j, z⟩ => .inr ⟨j, le1 j b z⟩), fun z => (ob_blk.mpr z).elim .inl fun ⟨j, z⟩ => .inr ⟨j, ge1 j b z fun m => (outOf_le z).2 (hss j m)⟩⟩
            have ho : (tf ρ1).calm.bind (fun b => if b = true then (ef ρ1).calm.bind fun e => if okE e = true then .ok (some e.2) else .bad else .ok none) = .ok o := ho
            refine ⟨_, own1, ρ1, S4, ?_⟩
            cases et : tf ρ1 with
            | exc c => rw [et] at ho; cases ho
            | bad => rw [et] at ho; cases ho
            | ok b =>
              rw [et] at ho
              intro H4 s4
              have ho : (if b = true then (ef ρ1).calm.bind fun e => if okE e = true then .ok (some e.2) else .bad else .ok none) = R.ok o := ho
              cases b with
              | false =>
                rw [if_neg Bool.false_ne_true] at ho ⊢
                have ho := R.ok.inj ho
                subst ho
                have s34 := s3.trans s4
                exact ⟨s2.trans s34, ys, us, r, s34 _ _ hD, RpL.mono (hd_same s34) _ _ hys, by omega, hr, by rw [hz2] at htot; exact htot⟩
              | true =>
                rw [if_pos rfl] at ho ⊢
                refine ⟨_, own1, ρ1, S4.mono s4, ?_⟩
                cases ee : ef ρ1 with
                | exc c => rw [ee] at ho; cases ho
                | bad => rw [ee] at ho; cases ho
                | ok e =>
                  rw [ee] at ho
                  have ho : (if okE e = true then R.ok (some e.2) else .bad) = R.ok o := ho
                  split at ho
                  · rename_i hok
                    have ho := R.ok.inj ho
                    subst ho
                    intro H5 v s5 r5
                    have s35 := (s3.trans s4).trans s5
                    have hD5 := s35 _ _ hD
                    have rv := Rp.mono (hd_mono (H' := H5) (P' := fun b => ob hid own b ∨ b = D0) fun b o e n => ⟨e, fun z => n ((obs b).mpr z)⟩) _ _ (r5.clean hok)
                    have up : Same (hd H5 fun b => ob hid own b ∨ b = D0) (hd (upd H5 D0 (.lst (us ++ [v]))) fun b => ob hid own b ∨ b = D0) := hd_mono fun b o e n => ⟨by rw [upd_ne (fun z => n (.inr z))]; exact e, n⟩
                    refine ⟨us, hD5, ?_, fun b o e => ?_, ys ++ [e.2], us ++ [v], r, upd_same, RpL.mono up _ _ (RpL.app (RpL.mono (hd_same s35) _ _ hys) (RpL.one rv)), by rw [List.length_append, List.length_singleton]; omega, hr, ?_⟩
                    · rw [hys.len, sizeLine_eq]; omega
                    · have hb : b ≠ D0 := fun z => by rw [z, nD] at e; cases e
                      rw [upd_ne hb]
                      exact s35 _ _ (s2 _ _ e)
                    · rw [hz2] at htot
                      rw [List.append_assoc]
                      exact htot
                  · cases ho
    · exact h.elim
theorem de_lc {elt tg iter : Expr} {ifs : List Expr} {scope : Scope} {own : List (Str × Nat)} {pos : Pos} {ss : List Nat} {f : IF} {gf : GF} {tf : TF} {ef : EF} (hc : X.calm = true) (hN : X.N.Nodup) (ok : BlkOk X.N X.env.scope scope own) (hss : ∀ i ∈ ss, i ∈ own.map (·.2)) (hi : DI X W tg iter f)
    (hg : ∀ (s : Shared) (H : Hp) (C : Addr) (cl : List (Str × Addr)) (fp : List Addr), DG (X.blk s H scope (compEnvC scope cl C X.env) fp) tg ss gf) (ht : ∀ (s : Shared) (H : Hp) (C : Addr) (cl : List (Str × Addr)) (fp : List Addr), DTs (X.blk s H scope (compEnvC scope cl C X.env) fp) W0 ifs tf)
    (he : ∀ (s : Shared) (H : Hp) (C : Addr) (cl : List (Str × Addr)) (fp : List Addr), DE (X.blk s H scope (compEnvC scope cl C X.env) fp) W0 elt ef) (hs : ∀ x, foldedSetIterable iter X.env x = pure x := by intro _; rfl) :
    DE X W (.ListComp elt [⟨tg, iter, ifs, 0⟩] scope pos) (lcF f (own.map (·.2)) gf tf ef) :=
  imp_pe (pe_lc hc hN hi ok hg ht he hs) fun σ H Q q => lc_den hss rfl rfl rfl q
end
end PL
set_option Elab.async false
set_option linter.all false
set_option maxRecDepth 100000
set_option maxHeartbeats 4000000
/-! PL7: statements over pure data. -/
namespace PL
open PySem PySem.Spec L2

inductive SRes where
  | nx (ρ : Ro) | rt (e : Ev) | bk (ρ : Ro) | ct (ρ : Ro) | exc (c : Str) (ρ : Ro) | bad
abbrev SF := Ro → SRes

/-- what a statement leaves: the objects that are not the call's own stay; a list that becomes its own was so before, or is new -/
structure Ext (own own' : Own) (H H' : Hp) : Prop where
  keep : ∀ b o, H b = some o → (∀ i, own i ≠ some b) → H' b = some o
  isow : ∀ i b, own' i = some b → (∃ j, own j = some b) ∨ H b = none
  free : ∀ b, H' b = none → H b = none
theorem Ext.refl {own : Own} {H : Hp} : Ext own own H H := ⟨fun _ _ e _ => e, fun i _ e => .inl ⟨i, e⟩, fun _ e => e⟩
theorem Ext.trans {o1 o2 o3 : Own} {H1 H2 H3 : Hp} (h : Ext o1 o2 H1 H2) (k : Ext o2 o3 H2 H3) : Ext o1 o3 H1 H3 := by
  refine ⟨fun b o e n => k.keep b o (h.keep b o e n) fun i z => ?_, fun i b e => ?_, fun b e => h.free b (k.free b e)⟩
  · rcases h.isow i b z with ⟨j, q⟩ | q
    · exact n j q
    · rw [q] at e; cases e
  · rcases k.isow i b e with ⟨j, q⟩ | q
    · exact h.isow j b q
    · exact .inr (h.free b q)
theorem Ext.same {own : Own} {H H' : Hp} (s : Same H H') : Ext own own H H' := ⟨fun b o e _ => s b o e, fun i _ e => .inl ⟨i, e⟩, fun _ e => s.free e⟩
theorem Ext.seen {own own' : Own} {hid : Addr → Prop} {H H' : Hp} (h : Ext own own' H H') : Same (hd H (ob hid own)) (hd H' (ob hid own')) := hd_mono fun b o e n =>
  ⟨h.keep b o e fun i z => n (.inr ⟨i, z⟩), fun z => z.elim (fun z => n (.inl z)) fun ⟨i, z⟩ => (h.isow i b z).elim (fun z => n (.inr z)) fun z => by rw [z] at e; cases e⟩
/-- what comes back -/
def RX (K : PySem.W.Frag) (hid : Addr → Prop) (own : Own) (H H' : Hp) : Ev → V → Prop
  | (.fr, d), v => ∃ a, v = .ref a ∧ (H a = none ∨ ∃ i, own i = some a) ∧ ¬ hid a ∧ MR K (hd H' fun b => hid b ∨ b = a) (H' a) d
  | (_, d), v => Rp K (hd H' hid) d v
theorem RX.ext {K : PySem.W.Frag} {hid : Addr → Prop} {own own' : Own} {H H1 H' : Hp} (x : Ext own own' H H1) : ∀ {e : Ev} {v : V}, RX K hid own' H1 H' e v → RX K hid own H H' e v
  | (.fr, _), _, ⟨a, e, h, n, m⟩ => ⟨a, e, h.elim (fun z => .inl (x.free a z)) (fun ⟨i, z⟩ => (x.isow i a z).elim .inr .inl), n, m⟩
  | (.cl, _), _, h => h
  | (.pk, _), _, h => h
def PostS (K : PySem.W.Frag) (mg : Str → Option Value) (W : WX) (hid : Addr → Prop) (own : Own) (H : Hp) (D : Ends) (r : SRes) : Prop :=
  match r with
  | .nx ρ => ∀ own' σ' H', Ext own own' H H' → SR K hid own' H' ρ σ' → D.nx σ' H'
  | .bk ρ => ∀ own' σ' H', Ext own own' H H' → SR K hid own' H' ρ σ' → D.bk σ' H'
  | .ct ρ => ∀ own' σ' H', Ext own own' H H' → SR K hid own' H' ρ σ' → D.ct σ' H'
  | .rt e => ∀ own' H' v, Ext own own' H H' → RX K hid own H H' e v → D.rt v H'
  | .exc c ρ => ∀ own' σ' H', Ext own own' H H' → SR K hid own' H' ρ σ' → Wc mg W σ' c H'
  | .bad => False
theorem PostS.ext {K : PySem.W.Frag} {mg : Str → Option Value} {W : WX} {hid : Addr → Prop} {own own' : Own} {H H' : Hp} {D : Ends} {r : SRes} (x : Ext own own' H H') (h : PostS K mg W hid own H D r) : PostS K mg W hid own' H' D r := by
  cases r with
  | nx ρ => exact fun o σ' h' x' => h o σ' h' (x.trans x')
  | bk ρ => exact fun o σ' h' x' => h o σ' h' (x.trans x')
  | ct ρ => exact fun o σ' h' x' => h o σ' h' (x.trans x')
  | exc c ρ => exact fun o σ' h' x' => h o σ' h' (x.trans x')
  | rt e => exact fun o h' v x' r => h o h' v (x.trans x') (r.ext x)
  | bad => exact h
def tS (K : PySem.W.Frag) (mg : Str → Option Value) (W : WX) (f : SF) : TS := fun D σ H => ∃ hid own ρ, SR K hid own H ρ σ ∧ PostS K mg W hid own H D (f ρ)
abbrev DS (X : Cx) (W : WX) (st : Stmt) (f : SF) : Prop := PS X st (tS X.K X.mg W f)
abbrev DSs (X : Cx) (W : WX) (st : List Stmt) (f : SF) : Prop := PSs X st (tS X.K X.mg W f)

def sOf (r : R Ev) (ρ : Ro) (k : Ev → SRes) : SRes := match r with
  | .ok e => k e
  | .exc c => .exc c ρ
  | .bad => .bad
section
variable {K : PySem.W.Frag} {mg : Str → Option Value} {W : WX} {hid : Addr → Prop} {own : Own} {H H' : Hp} {ρ : Ro} {σ : L2.St} {D : Ends}
theorem PostS.part {r : R Ev} {k : Ev → SRes} {T : VK} (hS : SR K hid own H ρ σ) (h : PostS K mg W hid own H D (sOf r ρ k))
    (q : ∀ e H1 v, Same H H1 → RV K hid own H H1 e.1 e.2 v → PostS K mg W hid own H D (k e) → T v H1) : Post K hid own H (Wc mg W σ) r T := by
  cases r with
  | ok e => exact fun H1 v s r => q e H1 v s r h
  | exc c => exact fun H1 s => h own σ H1 (Ext.same s) (hS.mono s)
  | bad => exact h
end

/-! ### blocks -/
def sSkip : SF := .nx
def sSeq (f g : SF) : SF := fun ρ => match f ρ with
  | .nx ρ' => g ρ'
  | r => r
def sIf (t : TF) (f g : SF) : SF := fun ρ => match t ρ with
  | .ok true => f ρ
  | .ok false => g ρ
  | .exc c => .exc c ρ
  | .bad => .bad
section
variable {X : Cx} {W : WX} {st : Stmt} {sts : List Stmt} {f g : SF} {e : Expr} {fe : EF} {pos : Pos}
theorem imp_psD {st : Stmt} {t t' : TS} (h : PS X st t) (k : ∀ D σ H, t' D σ H → t D σ H) : PS X st t' := imp_ps h k
theorem dss_nil : DSs X W [] sSkip := imp_pss pss_nil fun D σ H ⟨hid, own, ρ, hS, h⟩ => h own σ H Ext.refl hS
theorem seqD {K : PySem.W.Frag} {mg : Str → Option Value} : ∀ D σ H, tS K mg W (sSeq f g) D σ H → tSeq (tS K mg W f) (tS K mg W g) D σ H := fun D σ H ⟨hid, own, ρ, hS, h⟩ => ⟨hid, own, ρ, hS, by
  unfold sSeq at h
  cases e : f ρ with
  | nx ρ' => rw [e] at h; exact fun own' σ' H' x S' => ⟨hid, own', ρ', S', PostS.ext x h⟩
  | bk ρ' => rw [e] at h; exact h
  | ct ρ' => rw [e] at h; exact h
  | rt ρ' => rw [e] at h; exact h
  | exc c ρ' => rw [e] at h; exact h
  | bad => rw [e] at h; exact h⟩
theorem dss_cons (h1 : DS X W st f) (h2 : DSs X W sts g) : DSs X W (st :: sts) (sSeq f g) := imp_pss (pss_cons h1 h2) seqD
theorem dss_one (h : DS X W st f) : DSs X W [st] f := pss_one h
theorem ds_pass : DS X W (.Pass pos) sSkip := imp_ps ps_pass fun D σ H ⟨hid, own, ρ, hS, h⟩ => h own σ H Ext.refl hS
theorem ds_break : DS X W (.Break pos) .bk := imp_ps ps_break fun D σ H ⟨hid, own, ρ, hS, h⟩ => h own σ H Ext.refl hS
theorem ds_continue : DS X W (.Continue pos) .ct := imp_ps ps_continue fun D σ H ⟨hid, own, ρ, hS, h⟩ => h own σ H Ext.refl hS
theorem ds_doc {x j pos'} : DS X W (.Expr (.Constant (.str x) j pos) pos') sSkip := imp_ps ps_doc fun D σ H ⟨hid, own, ρ, hS, h⟩ => h own σ H Ext.refl hS
def sNever : SF := fun _ => .bad
theorem ds_never : DS X W st sNever := imp_ps ps_never fun D σ H ⟨hid, own, ρ, hS, h⟩ => h.elim
theorem ds_if {c : Expr} {a b : List Stmt} {t : TF} (hc : DT X W c t) (ha : DSs X W a f) (hb : DSs X W b g) : DS X W (.If c a b pos) (sIf t f g) :=
  imp_ps (ps_if hc ha hb) fun D σ H ⟨hid, own, ρ, hS, h⟩ => ⟨hid, own, ρ, hS, by
    unfold sIf at h
    cases e : t ρ with
    | ok b =>
      rw [e] at h
      intro H1 s1
      cases b with
      | true => rw [if_pos rfl]; exact ⟨hid, own, ρ, hS.mono s1, PostS.ext (Ext.same s1) h⟩
      | false => rw [if_neg Bool.false_ne_true]; exact ⟨hid, own, ρ, hS.mono s1, PostS.ext (Ext.same s1) h⟩
    | exc c => rw [e] at h; exact fun H1 s => h own σ H1 (Ext.same s) (hS.mono s)
    | bad => rw [e] at h; exact h.elim⟩

/-! ### drops, returns -/
def sDrop (fe : EF) : SF := fun ρ => sOf (fe ρ) ρ fun _ => .nx ρ
theorem ds_expr (he : DE X W e fe) (hs : swapsWith e none pos.line X.env = pure false := by rfl) : DS X W (.Expr e pos) (sDrop fe) :=
  imp_ps (ps_expr he hs) fun D σ H ⟨hid, own, ρ, hS, h⟩ => ⟨hid, own, ρ, hS, PostS.part hS h fun x H1 v s1 r1 h1 => h1 own σ H1 (Ext.same s1) (hS.mono s1)⟩
theorem RX.of {K : PySem.W.Frag} {hid : Addr → Prop} {own : Own} {H H' : Hp} : ∀ {e : Ev} {v : V}, RV K hid own H H' e.1 e.2 v → RX K hid own H H' e v
  | (.pk, _), _, h => h.rp
  | (.cl, _), _, h => Rp.mono hd_ob_hid _ _ h
  | (.fr, _), _, ⟨a, e, n, nb, m⟩ => ⟨a, e, .inl n, fun z => nb (.inl z), m.mono (hd_mono fun b o e n => ⟨e, fun z => n (z.elim (fun z => .inl (.inl z)) .inr)⟩)⟩
def sRet (fe : EF) : SF := fun ρ => sOf (fe ρ) ρ .rt
theorem ds_ret (he : DE X W e fe) : DS X W (.Return (some e) pos) (sRet fe) :=
  imp_ps (ps_ret he) fun D σ H ⟨hid, own, ρ, hS, h⟩ => ⟨hid, own, ρ, hS, PostS.part hS h fun x H1 v s1 r1 h1 => h1 own H1 v (Ext.same s1) (RX.of r1)⟩
def sRetN : SF := fun _ => .rt (.cl, .non)
theorem ds_retN : DS X W (.Return none pos) sRetN := imp_ps ps_retN fun D σ H ⟨hid, own, ρ, hS, h⟩ => h own H .non Ext.refl rfl
/-- return name: a list of the call's own is handed out -/
def sRetV (i : Nat) : SF := fun ρ => match ρ[i]? with
  | some (some (true, d)) => .rt (.fr, d)
  | some (some (false, d)) => .rt (.cl, d)
  | _ => .bad
theorem ds_retV (i : Nat) {x : Str} {p : Pos} (hx : PE X (.Name x p) (tVar i)) : DS X W (.Return (some (.Name x p)) pos) (sRetV i) :=
  imp_ps (ps_ret hx) fun D σ H ⟨hid, own, ρ, hS, h⟩ => by
    unfold sRetV at h
    split at h
    · rename_i d e
      obtain ⟨a, e1, e2, e3⟩ := hS.ow i d e
      exact ⟨_, e2, h own H _ Ext.refl ⟨a, rfl, .inr ⟨i, e1⟩, (hS.oh i a e1).1, e3.mono (hd_mono fun b o q n => ⟨q, fun z => n (z.elim .inl fun z => .inr ⟨i, by rw [z]; exact e1⟩)⟩)⟩⟩
    · rename_i d e
      obtain ⟨v, e1, e2⟩ := hS.val i d e
      exact ⟨v, e1, h own H _ Ext.refl (Rp.mono hd_ob_hid _ _ e2)⟩
    · exact h.elim

/-! ### name = e -/
open Classical in
noncomputable def setOwn (own : Own) (i : Nat) (a : Addr) : Own := fun j => if j = i then some a else own j
theorem setOwn_le {own : Own} {i j : Nat} {a b : Addr} (h : setOwn own i a j = some b) : (j = i ∧ b = a) ∨ (j ≠ i ∧ own j = some b) := by
  unfold setOwn at h
  by_cases c : j = i
  · rw [if_pos c] at h; exact .inl ⟨c, (Option.some.inj h).symm⟩
  · rw [if_neg c] at h; exact .inr ⟨c, h⟩
theorem SR.setO {K : PySem.W.Frag} {hid : Addr → Prop} {own : Own} {H H' : Hp} {ρ : Ro} {σ : L2.St} (h : SR K hid own H ρ σ) (s : Same H H') {i : Nat} {d : D} {a : Addr} (hi : i < ρ.length) (na : H a = none) (nb : ¬ ob hid own a)
    (m : MR K (hd H' fun b => ob hid own b ∨ b = a) (H' a) d) : SR K hid (setOwn own i a) H' (ρ.set i (some (true, d))) (σ.set i (some (.ref a))) := by
  have obs : ∀ b, ob hid (setOwn own i a) b → ob hid own b ∨ b = a := fun b z => z.elim (fun z => .inl (.inl z)) fun ⟨j, z⟩ => (setOwn_le z).elim (fun z => .inr z.2) fun z => .inl (.inr ⟨j, z.2⟩)
  have mono : Same (hd H (ob hid own)) (hd H' (ob hid (setOwn own i a))) := hd_mono fun b o e n => ⟨s _ _ e, fun z => (obs b z).elim n fun z => by rw [z, na] at e; cases e⟩
  have selfO : setOwn own i a i = some a := if_pos rfl
  have otherO : ∀ {j : Nat} {b : Addr}, j ≠ i → own j = some b → setOwn own i a j = some b := fun c e => by unfold setOwn; rw [if_neg c]; exact e
  refine ⟨by rw [List.length_set, List.length_set]; exact h.len, fun j d' e => ?_, fun j d' e => ?_, fun j k b e1 e2 => ?_, fun j b e => ?_, fun b hb z => h.hin b hb (s.free z)⟩
  · by_cases c : i = j
    · subst c; rw [List.getElem?_set_self hi] at e; cases e
    · rw [List.getElem?_set_ne c] at e ⊢
      obtain ⟨u, e1, e2⟩ := h.val j d' e
      exact ⟨u, e1, Rp.mono mono _ _ e2⟩
  · by_cases c : i = j
    · subst c
      rw [List.getElem?_set_self hi] at e
      cases e
      exact ⟨a, selfO, by rw [List.getElem?_set_self (by rw [← h.len]; exact hi)], m.mono (hd_mono fun b o q n => ⟨q, fun z => n (obs b z)⟩)⟩
    · rw [List.getElem?_set_ne c] at e ⊢
      obtain ⟨b, e1, e2, e3⟩ := h.ow j d' e
      obtain ⟨_, ⟨xs, e4⟩, _⟩ := h.oh j b e1
      refine ⟨b, otherO (Ne.symm c) e1, e2, ?_⟩
      rw [s _ _ e4, ← e4]
      exact e3.mono mono
  · rcases setOwn_le e1 with ⟨c1, z1⟩ | ⟨c1, z1⟩ <;> rcases setOwn_le e2 with ⟨c2, z2⟩ | ⟨c2, z2⟩
    · rw [c1, c2]
    · exact absurd (.inr ⟨k, by rw [← z1]; exact z2⟩) nb
    · exact absurd (.inr ⟨j, by rw [← z2]; exact z1⟩) nb
    · exact h.inj j k b z1 z2
  · rcases setOwn_le e with ⟨c, z⟩ | ⟨c, z⟩
    · subst c z
      refine ⟨fun q => nb (.inl q), ?_, d, by rw [List.getElem?_set_self hi]⟩
      cases d with
      | lst ds => obtain ⟨us, q, _⟩ := m; exact ⟨us, q⟩
      | _ => exact m.elim
    · obtain ⟨h1, ⟨xs, h2⟩, d', h3⟩ := h.oh j b z
      exact ⟨h1, ⟨xs, s _ _ h2⟩, d', by rw [List.getElem?_set_ne (Ne.symm c)]; exact h3⟩
def setSl (i : Nat) (ρ : Ro) : Ev → SRes
  | (.fr, d) => if i < ρ.length then .nx (ρ.set i (some (true, d))) else .bad
  | e => if okE e = true then .nx (ρ.set i (some (false, e.2))) else .bad
def sSet (i : Nat) (fe : EF) : SF := fun ρ => sOf (fe ρ) ρ (setSl i ρ)
theorem setSl_ok {K : PySem.W.Frag} {mg : Str → Option Value} {hid : Addr → Prop} {own : Own} {H H1 : Hp} {ρ : Ro} {σ : L2.St} {DD : Ends} {i : Nat} {x : Ev} {v : V} (hS : SR K hid own H ρ σ) (s1 : Same H H1) (r1 : RV K hid own H H1 x.1 x.2 v)
    (h1 : PostS K mg W hid own H DD (setSl i ρ x)) : DD.nx (σ.set i (some v)) H1 := by
  have val : ∀ {d : D}, Rp K (hd H1 (ob hid own)) d v → PostS K mg W hid own H DD (.nx (ρ.set i (some (false, d)))) → DD.nx (σ.set i (some v)) H1 := fun {d} r h1 =>
    h1 (unown own i) _ H1 ⟨fun b o e _ => s1 b o e, fun j b e => .inl ⟨j, (unown_le e).1⟩, fun b e => s1.free e⟩ ((hS.mono s1).setV r)
  obtain ⟨k, d⟩ := x
  cases k with
  | fr =>
    have h1 : PostS K mg W hid own H DD (if i < ρ.length then .nx (ρ.set i (some (true, d))) else .bad) := h1
    split at h1
    · rename_i hi
      obtain ⟨a, ev, na, nb, m⟩ := r1
      subst ev
      refine h1 (setOwn own i a) _ H1 ⟨fun b o e _ => s1 b o e, fun j b e => ?_, fun b e => s1.free e⟩ (hS.setO s1 hi na nb m)
      rcases setOwn_le e with ⟨_, z⟩ | ⟨_, z⟩
      · rw [z]; exact .inr na
      · exact .inl ⟨j, z⟩
    · exact h1.elim
  | cl => exact val r1 h1
  | pk =>
    have h1 : PostS K mg W hid own H DD (if okE (.pk, d) = true then .nx (ρ.set i (some (false, d))) else .bad) := h1
    split at h1
    · rename_i hok
      exact val (r1.clean hok) h1
    · exact h1.elim
theorem ds_set (i : Nat) {x : Str} {pos' : Pos} (hN : X.N.Nodup) (hi : X.N[i]? = some x) (hx : Loc X.env.scope x) (he : DE X W e fe) (hs : swapsWith e (some (.Name x pos')) pos.line X.env = pure false := by rfl) (hf : X.fn x = true ∨ X.env.scope.names.lookup x = some .local := by first | exact .inl rfl | exact .inr rfl | assumption) :
    DS X W (.Assign [.Name x pos'] e pos) (sSet i fe) :=
  imp_ps (ps_set hN hi hx he hs hf) fun D σ H ⟨hid, own, ρ, hS, h⟩ => ⟨hid, own, ρ, hS, PostS.part hS h fun x H1 v s1 r1 h1 => setSl_ok hS s1 r1 h1⟩
theorem ds_setLc (i : Nat) {y : Str} {py : Pos} {elt tg iter : Expr} {ifs : List Expr} {scope : Scope} {own : List (Str × Nat)} {pos spos : Pos} {ss : List Nat} {f : IF} {gf : GF} {tf : TF} {ef : EF} (hc : X.calm = true) (hN : X.N.Nodup) (hy : X.N[i]? = some y) (hyl : X.env.scope.names.lookup y = some .local)
    (hsw : swapsWith (.ListComp elt [⟨tg, iter, ifs, 0⟩] scope pos) (some (.Name y py)) spos.line X.env = pure true) (ok : BlkOk X.N X.env.scope scope own) (hss : ∀ i ∈ ss, i ∈ own.map (·.2)) (hi : DI X W tg iter f)
    (hg : ∀ (s : Shared) (H : Hp) (C : Addr) (cl : List (Str × Addr)) (fp : List Addr), DG (X.blk s H scope (compEnvC scope cl C X.env) fp) tg ss gf) (ht : ∀ (s : Shared) (H : Hp) (C : Addr) (cl : List (Str × Addr)) (fp : List Addr), DTs (X.blk s H scope (compEnvC scope cl C X.env) fp) W0 ifs tf)
    (he : ∀ (s : Shared) (H : Hp) (C : Addr) (cl : List (Str × Addr)) (fp : List Addr), DE (X.blk s H scope (compEnvC scope cl C X.env) fp) W0 elt ef) (hs : ∀ x, foldedSetIterable iter X.env x = pure x := by intro _; rfl) :
    DS X W (.Assign [.Name y py] (.ListComp elt [⟨tg, iter, ifs, 0⟩] scope pos) spos) (sSet i (lcF f (own.map (·.2)) gf tf ef)) :=
  imp_ps (ps_setLc hc hN hy hyl hsw hi ok hg ht he hs) fun D σ H ⟨hid, own, ρ, hS, h⟩ => lc_den hss rfl rfl rfl ⟨hid, own, ρ, hS, PostS.part hS h fun x H1 v s1 r1 h1 => setSl_ok hS s1 r1 h1⟩
/-- a target of several names -/
def sAsg (fe : EF) (g : GF) : SF := fun ρ => sOf (fe ρ) ρ fun e => if okE e = true then (match g e.2 ρ with | some ρ' => .nx ρ' | none => .bad) else .bad
theorem ds_asg {tg : Expr} {ss : List Nat} {gf : GF} (he : DE X W e fe) (hg : DG X tg ss gf) (hs : swapsWithSole [tg] e pos.line X.env = pure false := by rfl) (hw : swappedStores [tg] e X.env = pure none := by rfl)
    (h1 : (assignEach [tg] X.env).map (·.2) = [assign tg X.env] := by rfl) : DS X W (.Assign [tg] e pos) (sAsg fe gf) :=
  imp_ps (ps_asg he hg hs hw h1) fun D σ H ⟨hid, own, ρ, hS, h⟩ => ⟨hid, own, ρ, hS, PostS.part hS h fun x H1 v s1 r1 h1 => by
    by_cases c : okE x = true
    · rw [if_pos c] at h1
      refine ⟨hid, own, ρ, x.2, hS.mono s1, r1.clean c, ?_⟩
      cases eg : gf x.2 ρ with
      | none => rw [eg] at h1; exact h1.elim
      | some ρ' => rw [eg] at h1; exact fun own' σ' S' le ge k l => h1 own' σ' H1 ⟨fun b o e _ => s1 b o e, fun j b e => .inl ⟨j, le j b e⟩, fun b e => s1.free e⟩ S'
    · rw [if_neg c] at h1; exact h1.elim⟩
/-- name op= e -/
def sAug (i : Nat) (f : Int → Int → Int) (fe : EF) : SF := fun ρ => match ρ[i]? with
  | some (some (false, .int a)) => sOf (fe ρ) ρ fun e => match e.2 with
    | .int b => .nx (ρ.set i (some (false, .int (f a b))))
    | _ => .bad
  | _ => .bad
theorem ds_aug (i : Nat) {x : Str} {op : Operator} {f : Int → Int → Int} {pos' : Pos} (ho : PIp X op (ipI f)) (hN : X.N.Nodup) (hi : X.N[i]? = some x) (hx : Loc X.env.scope x) (he : DE X W e fe) (hf : X.fn x = true ∨ X.env.scope.names.lookup x = some .local := by first | exact .inl rfl | exact .inr rfl | assumption) :
    DS X W (.AugAssign (.Name x pos') op e pos) (sAug i f fe) :=
  imp_ps (ps_aug hN hi hx he ho hf) fun D σ H ⟨hid, own, ρ, hS, h⟩ => by
    unfold sAug at h
    split at h
    · rename_i a ea
      obtain ⟨v, e1, e2⟩ := hS.val i _ ea
      refine ⟨v, e1, hid, own, ρ, hS, PostS.part hS h fun x H1 u s1 r1 h1 => ?_⟩
      obtain ⟨k, d⟩ := x
      cases d with
      | int b => exact ⟨a, b, e2, r1.rt, h1 (unown own i) _ H1 ⟨fun b o e _ => s1 b o e, fun j b e => .inl ⟨j, (unown_le e).1⟩, fun b e => s1.free e⟩ ((hS.mono s1).setV rfl)⟩
      | _ => exact h1.elim
    · exact h.elim

/-! ### lists of the call's own are written -/
theorem SR.wrL {K : PySem.W.Frag} {hid : Addr → Prop} {own : Own} {H : Hp} {ρ : Ro} {σ : L2.St} (h : SR K hid own H ρ σ) {i : Nat} {a : Addr} {ds : List D} {us : List V} (ha : own i = some a) (r : RpL K (hd H (ob hid own)) ds us) :
    SR K hid own (upd H a (.lst us)) (ρ.set i (some (true, .lst ds))) σ ∧ Ext own own H (upd H a (.lst us)) := by
  obtain ⟨na, ⟨xs, hx⟩, d0, hr⟩ := h.oh i a ha
  have hi : i < ρ.length := (List.getElem?_eq_some_iff.mp hr).1
  have mono : Same (hd H (ob hid own)) (hd (upd H a (.lst us)) (ob hid own)) := hd_mono fun b o e n => ⟨by rw [upd_ne (fun z => n (.inr ⟨i, by rw [z]; exact ha⟩))]; exact e, n⟩
  refine ⟨⟨by rw [List.length_set]; exact h.len, fun j d' e => ?_, fun j d' e => ?_, h.inj, fun j b e => ?_, fun b hb => ?_⟩, fun b o e n => ?_, fun j b e => .inl ⟨j, e⟩, fun b e => ?_⟩
  · by_cases c : i = j
    · subst c; rw [List.getElem?_set_self hi] at e; cases e
    · rw [List.getElem?_set_ne c] at e
      obtain ⟨u, e1, e2⟩ := h.val j d' e
      exact ⟨u, e1, Rp.mono mono _ _ e2⟩
  · by_cases c : i = j
    · subst c
      rw [List.getElem?_set_self hi] at e
      cases e
      obtain ⟨b, e1, e2, _⟩ := h.ow i d0 hr
      rw [ha] at e1
      cases e1
      exact ⟨a, ha, e2, us, upd_same, RpL.mono mono _ _ r⟩
    · rw [List.getElem?_set_ne c] at e
      obtain ⟨b, e1, e2, e3⟩ := h.ow j d' e
      have hb : b ≠ a := fun z => c (h.inj i j a ha (by rw [← z]; exact e1))
      refine ⟨b, e1, e2, ?_⟩
      rw [upd_ne hb]
      exact e3.mono mono
  · obtain ⟨h1, ⟨ys, h2⟩, d', h3⟩ := h.oh j b e
    refine ⟨h1, ?_, ?_⟩
    · by_cases c : b = a
      · subst c; exact ⟨us, upd_same⟩
      · exact ⟨ys, by rw [upd_ne c]; exact h2⟩
    · by_cases c : i = j
      · subst c; exact ⟨_, by rw [List.getElem?_set_self hi]⟩
      · exact ⟨d', by rw [List.getElem?_set_ne c]; exact h3⟩
  · have c : b ≠ a := fun z => na (by rw [← z]; exact hb)
    rw [upd_ne c]; exact h.hin b hb
  · rw [upd_ne (fun z => n i (by rw [z]; exact ha))]; exact e
  · by_cases c : b = a
    · subst c; rw [upd_same] at e; cases e
    · rw [upd_ne c] at e; exact e
/-- name.append(e) -/
def sApp (i : Nat) (fe : EF) : SF := fun ρ => match ρ[i]? with
  | some (some (true, .lst ds)) => sOf (fe ρ) ρ fun e => if okE e = true ∧ ds.length < 16777216 then .nx (ρ.set i (some (true, .lst (ds ++ [e.2])))) else .bad
  | _ => .bad
theorem ds_app (i : Nat) {x : Str} {p apos cpos : Pos} (hv : PE X (.Name x p) (tVar i)) (he : DE X W e fe) (hs : starEach [e] X.env = (false, eval e X.env) :: starEach [] X.env := by rfl)
    (hsw : swapsWith (.Call (.Attribute (.Name x p) "append" apos) [e] [] cpos) none pos.line X.env = pure false := by rfl)
    (hbase : attributeBase (.Name x p) "append" X.env (eval (.Name x p) X.env) = eval (.Name x p) X.env := by rfl)
    (hline : (apos.endLine == cpos.line) = true := by rfl) (hfew : ((backTo cpos (starEach [e] X.env)).all (fun x => !x.1) && (backToKw cpos (keywordEach [] X.env)).all (fun x => x.1.isSome)
      && decide (([e] : List Expr).length + ([] : List Keyword).length + (if ([] : List Keyword).isEmpty then 0 else 1) < 30)) = true := by rfl) :
    DS X W (.Expr (.Call (.Attribute (.Name x p) "append" apos) [e] [] cpos) pos) (sApp i fe) := by
  refine imp_ps (ps_expr (pe_bm F.plainAttrs_list F.slot_list_append F.type_list_append mt_append hv (pa_cons he pa_nil hs) hbase hfew hline hs rfl) hsw) fun D σ H ⟨hid, own, ρ, hS, h⟩ => ?_
  unfold sApp at h
  split at h
  · rename_i ds ed
    obtain ⟨a, ea, es, us, eh, er⟩ := hS.ow i _ ed
    refine ⟨_, es, ?_, hid, own, ρ, hS, PostS.part hS h fun x H1 v s1 r1 h1 => ?_⟩
    · exact .inl ⟨rfl, us, SqL.of eh⟩
    · by_cases c : okE x = true ∧ ds.length < 16777216
      · rw [if_pos c] at h1
        have S1 := hS.mono s1
        have rr : RpL X.K (hd H1 (ob hid own)) (ds ++ [x.2]) (us ++ [v]) := RpL.app (RpL.mono (hd_same s1) _ _ er) (RpL.one (r1.clean c.1))
        obtain ⟨w1, w2⟩ := S1.wrL ea rr
        exact ⟨a, us, v, rfl, rfl, s1 _ _ eh, by rw [er.len, sizeLine_eq]; exact c.2, h1 own σ _ ((Ext.same s1).trans w2) w1⟩
      · rw [if_neg c] at h1; exact h1.elim
  · exact h.elim
/-- name[e1] = e -/
def sSub (i : Nat) (fi fe : EF) : SF := fun ρ => match ρ[i]? with
  | some (some (true, .lst ds)) => sOf (fe ρ) ρ fun e => sOf (fi ρ) ρ fun k => match k.2 with
    | .int j => (match ixN ds.length j with | some n => if okE e = true then .nx (ρ.set i (some (true, .lst (ds.set n e.2)))) else .bad | none => .bad)
    | _ => .bad
  | _ => .bad
theorem ds_sub (i : Nat) {x : Str} {p tpos : Pos} {e1 : Expr} {fi : EF} (hv : PE X (.Name x p) (tVar i)) (hi : DE X W e1 fi) (he : DE X W e fe) (hs : swapsWithSole [.Subscript (.Name x p) e1 tpos] e pos.line X.env = pure false := by rfl) (hw : swappedStores [.Subscript (.Name x p) e1 tpos] e X.env = pure none := by rfl)
    (h1 : (assignEach [.Subscript (.Name x p) e1 tpos] X.env).map (·.2) = [assign (.Subscript (.Name x p) e1 tpos) X.env] := by rfl)
    (ha : ∀ v, assign (.Subscript (.Name x p) e1 tpos) X.env v = (do
      let ov ← holding [v] (eval (.Name x p) X.env)
      let iv ← holding [v, ov] (eval e1 X.env)
      standAt tpos
      holding [v, ov, iv] (setItem ov iv v)
      release [v, ov, iv] []) := by intro _; rfl) : DS X W (.Assign [.Subscript (.Name x p) e1 tpos] e pos) (sSub i fi fe) := by
  refine imp_ps (ps_asg he (pg_sub hv hi set_list ha) hs hw h1) fun D σ H ⟨hid, own, ρ, hS, h⟩ => ?_
  unfold sSub at h
  split at h
  · rename_i ds ed
    obtain ⟨a, ea, es, us, eh, er⟩ := hS.ow i _ ed
    refine ⟨hid, own, ρ, hS, PostS.part hS h fun x H1 v s1 r1 h1 => ?_⟩
    have S1 := hS.mono s1
    refine ⟨_, es, hid, own, ρ, S1, PostS.part S1 (PostS.ext (Ext.same s1) h1) fun y H2 u s2 r2 h2 => ?_⟩
    obtain ⟨k, d⟩ := y
    cases d with
    | int j =>
      have h2 : PostS X.K X.mg W hid own H1 D (match ixN ds.length j with | some n => if okE x = true then .nx (ρ.set i (some (true, .lst (ds.set n x.2)))) else .bad | none => .bad) := h2
      cases en : ixN ds.length j with
      | none => rw [en] at h2; exact h2.elim
      | some n =>
        rw [en] at h2
        have h2 : PostS X.K X.mg W hid own H1 D (if okE x = true then .nx (ρ.set i (some (true, .lst (ds.set n x.2)))) else .bad) := h2
        split at h2
        · rename_i hok
          have S2 := S1.mono s2
          have rr : RpL X.K (hd H2 (ob hid own)) (ds.set n x.2) (us.set n v) := RpL.set (Rp.mono (hd_same s2) _ _ (r1.clean hok)) n (RpL.mono (hd_same (s1.trans s2)) _ _ er)
          obtain ⟨w1, w2⟩ := S2.wrL ea rr
          exact ⟨a, us, j, n, rfl, r2.rt, s2 _ _ (s1 _ _ eh), by rw [er.len]; exact en, h2 own σ _ ((Ext.same s2).trans w2) w1⟩
        · exact h2.elim
    | _ => exact h2.elim
  · exact h.elim

/-! ### loops -/
def forL (g : GF) (fb : SF) : List D → SF
  | [], ρ => .nx ρ
  | d :: ds, ρ => match g d ρ with
    | none => .bad
    | some ρ1 => match fb ρ1 with
      | .nx ρ2 => forL g fb ds ρ2
      | .ct ρ2 => forL g fb ds ρ2
      | .bk ρ2 => .nx ρ2
      | r => r
def sFor (fi : IF) (g : GF) (fb : SF) : SF := fun ρ => match fi ρ with
  | .ok (false, ds) => forL g fb ds ρ
  | .exc c => .exc c ρ
  | _ => .bad
theorem ds_for {tg iter : Expr} {body : List Stmt} {ss : List Nat} {fi : IF} {gf : GF} {fb : SF} (hp : PassesOwn (model X.prog X.w) X.A X.env X.xe) (hc : X.calm = true) (hi : DI X W tg iter fi) (hg : DG X tg ss gf) (hb : DSs X W body fb)
    (hs : ∀ x, foldedSetIterable iter X.env x = pure x := by intro _; rfl) : DS X W (.For tg iter body [] pos) (sFor fi gf fb) := by
  refine imp_ps (ps_for hp hc hi hg hb hs) fun D σ H ⟨hid, own, ρ, hS, h⟩ => ⟨hid, own, ρ, hS, ?_⟩
  unfold sFor at h
  cases e : fi ρ with
  | exc c => rw [e] at h; exact fun H1 s => h own σ H1 (Ext.same s) (hS.mono s)
  | bad => rw [e] at h; exact h.elim
  | ok p =>
    obtain ⟨pk, ds⟩ := p
    cases pk with
    | true => rw [e] at h; exact h.elim
    | false =>
      rw [e] at h
      have h : PostS X.K X.mg W hid own H D (forL gf fb ds ρ) := h
      intro H1 J s1 it
      have S1 := hS.mono s1
      refine ⟨fun i m σ' H' => m = ds.length - i ∧ i ≤ ds.length ∧ ∃ own' ρ', Ext own own' H1 H' ∧ SR X.K hid own' H' ρ' σ' ∧ PostS X.K X.mg W hid own' H' D (forL gf fb (ds.drop i) ρ'), ⟨ds.length, rfl, Nat.zero_le _, own, ρ, Ext.refl, S1, PostS.ext (Ext.same s1) h⟩, ?_⟩
      rintro i m σ2 H2 ⟨rfl, hle, own2, ρ2, x2, S2, h2⟩
      obtain ⟨stop, go⟩ := it i H2 (ob hid own2) (fun b o q => hd_le _ _ (x2.seen b o q)) x2.seen S2.dom
      by_cases hcI : i = ds.length
      · refine .inl ⟨stop hcI, ?_⟩
        rw [hcI, List.drop_length] at h2
        exact h2 own2 σ2 H2 Ext.refl S2
      · have hlt : i < ds.length := by omega
        obtain ⟨go1, go2⟩ := go _ (List.getElem?_eq_getElem hlt)
        have ed : ds.drop i = ds[i] :: ds.drop (i + 1) := (List.drop_eq_getElem_cons hlt)
        rw [ed] at h2
        refine .inr ⟨go1, fun σ' H' => ∃ own' ρ', Ext own own' H1 H' ∧ SR X.K hid own' H' ρ' σ' ∧ PostS X.K X.mg W hid own' H' D (forL gf fb (ds.drop (i + 1)) ρ'), fun σ' H' q => ⟨ds.length - (i + 1), by omega, rfl, hlt, q⟩, fun x H3 y => ?_⟩
        obtain ⟨s3, rx⟩ := go2 x H3 y
        have S3 := S2.mono s3
        refine ⟨hid, own2, ρ2, ds[i], S3, rx, ?_⟩
        unfold forL at h2
        cases eg : gf ds[i] ρ2 with
        | none => rw [eg] at h2; exact h2.elim
        | some ρ3 =>
          rw [eg] at h2
          intro own3 σ3 S4 le3 ge3 k3 l3
          have x3 : Ext own2 own3 H2 H3 := ⟨fun b o e _ => s3 b o e, fun j b e => .inl ⟨j, le3 j b e⟩, fun b e => s3.free e⟩
          refine ⟨hid, own3, ρ3, S4, ?_⟩
          have h2 : PostS X.K X.mg W hid own2 H2 D (match fb ρ3 with | .nx ρ2 => forL gf fb (ds.drop (i + 1)) ρ2 | .ct ρ2 => forL gf fb (ds.drop (i + 1)) ρ2 | .bk ρ2 => .nx ρ2 | r => r) := h2
          have h2 := PostS.ext x3 h2
          have x23 := x2.trans x3
          cases eb : fb ρ3 with
          | nx ρ4 => rw [eb] at h2; exact fun own4 σ4 H4 x4 S5 => ⟨own4, ρ4, x23.trans x4, S5, PostS.ext x4 h2⟩
          | ct ρ4 => rw [eb] at h2; exact fun own4 σ4 H4 x4 S5 => ⟨own4, ρ4, x23.trans x4, S5, PostS.ext x4 h2⟩
          | bk ρ4 => rw [eb] at h2; exact fun own4 σ4 H4 x4 S5 => h2 own4 σ4 H4 x4 S5
          | rt e4 => rw [eb] at h2; exact h2
          | exc c4 ρ4 => rw [eb] at h2; exact h2
          | bad => rw [eb] at h2; exact h2.elim
def whileL (t : TF) (fb : SF) : Nat → SF
  | 0, _ => .bad
  | n + 1, ρ => match t ρ with
    | .ok true => (match fb ρ with
      | .nx ρ2 => whileL t fb n ρ2
      | .ct ρ2 => whileL t fb n ρ2
      | .bk ρ2 => .nx ρ2
      | r => r)
    | .ok false => .nx ρ
    | .exc c => .exc c ρ
    | .bad => .bad
theorem ds_while (n : Nat) {c : Expr} {body : List Stmt} {t : TF} {fb : SF} (hp : PassesOwn (model X.prog X.w) X.A X.env X.xe) (hc : DT X W c t) (hb : DSs X W body fb) : DS X W (.While c body [] pos) (whileL t fb n) := by
  refine imp_ps (ps_while hp hc hb) fun D σ H ⟨hid, own, ρ, hS, h⟩ => ?_
  refine ⟨fun m σ' H' => ∃ own' ρ', Ext own own' H H' ∧ SR X.K hid own' H' ρ' σ' ∧ PostS X.K X.mg W hid own' H' D (whileL t fb m ρ'), ⟨n, own, ρ, Ext.refl, hS, h⟩, ?_⟩
  rintro m σ2 H2 ⟨own2, ρ2, x2, S2, h2⟩
  refine ⟨hid, own2, ρ2, S2, ?_⟩
  cases m with
  | zero => exact h2.elim
  | succ m =>
    unfold whileL at h2
    cases et : t ρ2 with
    | exc c => rw [et] at h2; exact fun H1 s => h2 own2 σ2 H1 (Ext.same s) (S2.mono s)
    | bad => rw [et] at h2; exact h2.elim
    | ok b =>
      rw [et] at h2
      intro H3 s3
      have S3 := S2.mono s3
      have h2 := PostS.ext (Ext.same s3) h2
      have x3 := x2.trans (Ext.same s3)
      cases b with
      | false => rw [if_neg Bool.false_ne_true]; exact h2 own2 σ2 H3 Ext.refl S3
      | true =>
        rw [if_pos rfl]
        refine ⟨fun σ' H' => ∃ own' ρ', Ext own own' H H' ∧ SR X.K hid own' H' ρ' σ' ∧ PostS X.K X.mg W hid own' H' D (whileL t fb m ρ'), fun σ' H' q => ⟨m, Nat.lt_succ_self m, q⟩, hid, own2, ρ2, S3, ?_⟩
        have h2 : PostS X.K X.mg W hid own2 H3 D (match fb ρ2 with | .nx ρ2 => whileL t fb m ρ2 | .ct ρ2 => whileL t fb m ρ2 | .bk ρ2 => .nx ρ2 | r => r) := h2
        cases eb : fb ρ2 with
        | nx ρ4 => rw [eb] at h2; exact fun own4 σ4 H4 x4 S5 => ⟨own4, ρ4, x3.trans x4, S5, PostS.ext x4 h2⟩
        | ct ρ4 => rw [eb] at h2; exact fun own4 σ4 H4 x4 S5 => ⟨own4, ρ4, x3.trans x4, S5, PostS.ext x4 h2⟩
        | bk ρ4 => rw [eb] at h2; exact fun own4 σ4 H4 x4 S5 => h2 own4 σ4 H4 x4 S5
        | rt e4 => rw [eb] at h2; exact h2
        | exc c4 ρ4 => rw [eb] at h2; exact h2
        | bad => rw [eb] at h2; exact h2.elim
end

/-! ### a def -/
def outE : Ev → Ev
  | (.fr, d) => (.fr, d)
  | (_, d) => (.cl, d)
def runB : SRes → R Ev
  | .rt e => .ok (outE e)
  | .nx _ => .ok (.cl, .non)
  | .exc c _ => .exc c
  | _ => .bad
def enter (N : Nat) (ds : List D) : Ro := ds.map (fun d => some (false, d)) ++ List.replicate (N - ds.length) none
def fnD (N n : Nat) (f : SF) : FD := fun ds => if ds.length = n then runB (f (enter N ds)) else .bad
theorem enter_sr {K : PySem.W.Frag} {hid : Addr → Prop} {H : Hp} {ds : List D} {vs : List V} {N : List Str} (hin : ∀ b, hid b → H b ≠ none) (r : RpL K (hd H hid) ds vs) : SR K hid noOwn H (enter N.length ds) (L2.start N vs) := by
  have hl := r.len
  refine ⟨by simp [enter, L2.start, hl], fun i d e => ?_, fun i d e => ?_, (fun i j a e => nomatch e), (fun i a e => nomatch e), hin⟩
  · unfold enter at e
    by_cases hi : i < ds.length
    · rw [List.getElem?_append_left (by simpa using hi), List.getElem?_map] at e
      cases ed : ds[i]? with
      | none => rw [ed] at e; cases e
      | some d' =>
        rw [ed] at e
        cases e
        obtain ⟨v, e1, e2⟩ := r.get ed
        refine ⟨v, ?_, Rp.mono hd_no _ _ e2⟩
        unfold L2.start
        rw [List.getElem?_append_left (by rw [List.length_map, hl]; exact hi), List.getElem?_map, e1]
        rfl
    · rw [List.getElem?_append_right (by simpa using hi), List.getElem?_replicate] at e
      split at e <;> cases e
  · unfold enter at e
    by_cases hi : i < ds.length
    · rw [List.getElem?_append_left (by simpa using hi), List.getElem?_map] at e
      cases ed : ds[i]? with
      | none => rw [ed] at e; cases e
      | some d' => rw [ed] at e; cases e
    · rw [List.getElem?_append_right (by simpa using hi), List.getElem?_replicate] at e
      split at e <;> cases e
theorem runB_post {K : PySem.W.Frag} {mg : Str → Option Value} {hid : Addr → Prop} {H : Hp} {Q : VK} {E : XK} {r : SRes} (h : Post K hid noOwn H (fun c H' => ∀ C, mg c = some (.ref C) → E (.ref C) none H') (runB r) Q) :
    PostS K mg (fun cls d _ H => E cls d H) hid noOwn H { nx := fun _ H' => Q .non H', rt := Q } r := by
  have sm : ∀ {own' : Own} {H' : Hp}, Ext noOwn own' H H' → Same H H' := fun x b o e => x.keep b o e fun i z => nomatch z
  cases r with
  | bad => exact h
  | bk ρ => exact h.elim
  | ct ρ => exact h.elim
  | nx ρ => exact fun own' σ' H' x S => h H' .non (sm x) rfl
  | exc c ρ => exact fun own' σ' H' x S C hC => h H' (sm x) C hC
  | rt e =>
    intro own' H' v x r
    refine h H' v (sm x) ?_
    obtain ⟨k, d⟩ := e
    cases k with
    | cl => exact Rp.mono hd_no _ _ r
    | pk => exact Rp.mono hd_no _ _ r
    | fr =>
      obtain ⟨a, e1, e2, e3, m⟩ := r
      exact ⟨a, e1, e2.elim (fun z => z) (fun ⟨i, z⟩ => nomatch z), fun z => e3 (ob_no.mp z), m.mono (hd_mono fun b o q n => ⟨q, fun z => n (z.elim (fun z => .inl (ob_no.mp z)) .inr)⟩)⟩
section
variable {P : Program} {w : World} {K : PySem.W.Frag} {mg : Str → Option Value} {base : Heap}
theorem fn_den {x qual : Str} {st : Stmt} {f : Addr} {fd : FuncData} {N ps : List Str} {k n : Nat} {fb : SF} (F : Fun K x qual st f fd) (S : FnScope N ps (defScope st)) (hn : ps.length = n)
    (hbody : ∀ (cdv : Value) (A : Around) (outer : List Env) (s : Shared) (H : Hp) (E : XK), Room k (A.deeper (PyProof.Rows.envOfC qual (defScope st) s.heap.objs.size f cdv)) → DSs (cxOf (L2.CX P w) P w K mg base N qual (defScope st) f cdv A outer s H E) (fun cls d _ H => E cls d H) (defBody st) fb) :
    FnOk P w K mg base (L2.CX P w) (k + 1) f fd ps (spD K mg n (fnD N.length n fb)) := by
  refine Fun.okX F S (fun vs H Q E ⟨hid, ds, _, r, hl, _⟩ => by rw [r.len, hl, hn]) fun cdv A outer s H vs Q E hr ⟨hid, ds, hin, r, hl, h⟩ => ?_
  refine ⟨_, hbody cdv A outer s H E hr, ?_⟩
  have e : fnD N.length n fb ds = runB (fb (enter N.length ds)) := if_pos hl
  rw [e] at h
  exact ⟨hid, noOwn, _, enter_sr hin r, runB_post h⟩
theorem fn_bad {f : Addr} {fd : FuncData} {ps : List Str} {k n : Nat} (hn : ps.length = n) : FnOk P w K mg base (L2.CX P w) k f fd ps (spD K mg n fun _ => .bad) :=
  ⟨fun vs H Q E ⟨hid, ds, _, r, hl, _⟩ => by rw [r.len, hl, hn], fun A outer s H args us vs Q E _ _ _ _ ⟨_, _, _, _, _, h⟩ => h.elim⟩
end
end PL
set_option Elab.async false
set_option linter.all false
set_option maxRecDepth 100000
set_option maxHeartbeats 4000000
/-! PL8: a text times a number; replace of written texts. -/
namespace PL
open PySem PySem.Spec L2

/-! ### a text * a number -/
def rMulS : R2 := fun x y H Q => ∃ a k, x = .str (S a) ∧ y = .int k ∧ k < 16777216 ∧ 0 ≤ k ∧ a.length * k.toNat ≤ 16777216 ∧ Q (.str (S (List.replicate k.toNat a).flatten)) H
theorem fold_rep (x : Array Nat) : ∀ (k : Nat) (acc : Array Nat), ((List.replicate k x).foldl (· ++ ·) acc).toList = acc.toList ++ (List.replicate k x.toList).flatten
  | 0, acc => by simp
  | k + 1, acc => by
    rw [List.replicate_succ, List.foldl_cons, fold_rep x k, List.replicate_succ, List.flatten_cons, Array.toList_append, List.append_assoc]
theorem op_mulS {X : Cx} : OpR X (binaryOp .Mult) rMulS := by
  intro pins s σ H x y v u Q I rx ry h
  obtain ⟨a, k, rfl, rfl, h1, h2, h3, q⟩ := h
  obtain ⟨t, rfl⟩ := rx
  obtain ⟨t', rfl⟩ := ry
  have hl : (S a).length = a.length := S_len a
  refine P.mul_str ?_ (fun k1 k2 => ?_) (fun k1 k2 => ?_) ?_
  · have e1 : ¬ k < -(2 ^ 63 : Int) := by omega
    have e2 : ¬ k ≥ 2 ^ 63 := by omega
    rw [decide_eq_false e1, decide_eq_false e2]; rfl
  · rw [hl]
    have ek : k = (k.toNat : Int) := (Int.toNat_of_nonneg h2).symm
    have hk : 0 < k := by omega
    have : (a.length : Int) ≤ (2 ^ 63 - 1) / k := by
      refine (Int.le_ediv_iff_mul_le hk).mpr ?_
      have : ((a.length * k.toNat : Nat) : Int) ≤ ((16777216 : Nat) : Int) := Int.ofNat_le.mpr h3
      rw [Int.natCast_mul, ← ek] at this
      omega
    omega
  · rw [hl]
    show decide (a.length * k.toNat > sizeLine) = false
    rw [sizeLine_eq]
    exact decide_eq_false (by omega)
  · have fin : ∀ z : Str, z = S (List.replicate k.toNat a).flatten → ∀ s' : Shared, Inv X pins σ H s' → ∀ t'', EP X pins σ Q (.str z t'') s' := fun z e s' I' t'' => ⟨.str z, H, I', ⟨t'', rfl⟩, by rw [e]; exact q⟩
    by_cases c1 : k < 1
    · rw [if_pos c1]
      have : k.toNat = 0 := by omega
      exact ⟨by decide, fin _ (by rw [this]; rfl) _ (I.tok _) _⟩
    · rw [if_neg c1]
      by_cases c2 : (k == 1 || (S a).length == 0) = true
      · rw [if_pos c2]
        refine fin _ ?_ s I t
        rw [Bool.or_eq_true, beq_iff_eq, beq_iff_eq, hl] at c2
        rcases c2 with c | c
        · rw [c]; exact congrArg S (show a = (List.replicate 1 a).flatten from (List.append_nil a).symm)
        · have : a = [] := List.length_eq_zero_iff.mp c
          subst this
          congr 1
          exact (List.flatten_eq_nil_iff.mpr fun l hl => (List.eq_of_mem_replicate hl)).symm
      · rw [if_neg c2]
        have e : (⟨(List.replicate k.toNat (S a).cps).foldl (· ++ ·) #[]⟩ : Str) = S (List.replicate k.toNat a).flatten := TL.ext_tl (by
          show ((List.replicate k.toNat (S a).cps).foldl (· ++ ·) #[]).toList = _
          rw [fold_rep, S_cps]
          exact (List.nil_append _).trans (S_cps _).symm)
        refine ⟨?_, fin _ e _ (I.tok _) _⟩
        rw [e, S_len, sizeLine_eq]
        rw [List.length_flatten, List.map_replicate, List.sum_replicate_nat]
        rw [Nat.mul_comm]; exact h3
def gMulS : D → D → R Ev
  | .str a, .int k => if k < 16777216 ∧ 0 ≤ k ∧ a.length * k.toNat ≤ 16777216 then .ok (.cl, .str (List.replicate k.toNat a).flatten) else .bad
  | _, _ => .bad
theorem opg_mulS {K : PySem.W.Frag} : OpG K rMulS gMulS := by
  intro hid own H Wx x y dx dy Q hb rx ry q
  unfold gMulS at q
  split at q
  · split at q
    · rename_i h
      exact ⟨_, _, rx, ry, h.1, h.2.1, h.2.2, q.now rfl⟩
    · exact q.elim
  · exact q.elim
section
variable {X : Cx} {W : WX} {a b : Expr} {fa fb : EF} {pos : Pos}
theorem de_mulS (ha : DE X W a fa) (hb : DE X W b fb) : DE X W (.BinOp a .Mult b pos) (op2 gMulS fa fb) := de_op op_mulS opg_mulS ha hb
end

/-! ### with one token out -/
def DET (X : Cx) (W : WX) (e : Expr) (f : EF) : Prop := PET X e (tE X.K X.mg W f)
def DST (X : Cx) (W : WX) (st : Stmt) (f : SF) : Prop := PST X st (tS X.K X.mg W f)
def DSsT (X : Cx) (W : WX) (st : List Stmt) (f : SF) : Prop := PSsT X st (tS X.K X.mg W f)
def DAT (X : Cx) (W : WX) (es : List Expr) (f : AF) : Prop := PAT X es (tA X.K X.mg W f)
theorem imp_pet {X : Cx} {e : Expr} {t t' : TE} (h : PET X e t) (k : ∀ σ H Q, t' σ H Q → t σ H Q) : PET X e t' := fun pins s σ H Q h0 I q => h pins s σ H Q h0 I (k _ _ _ q)
theorem imp_pat {X : Cx} {e : List Expr} {t t' : TA} (h : PAT X e t) (k : ∀ σ H Q, t' σ H Q → t σ H Q) : PAT X e t' := fun pos pins s σ H Q h0 I q => h pos pins s σ H Q h0 I (k _ _ _ q)
theorem imp_pst {X : Cx} {e : Stmt} {t t' : TS} (h : PST X e t) (k : ∀ D σ H, t' D σ H → t D σ H) : PST X e t' := fun pins s σ H D h0 I q => h pins s σ H D h0 I (k _ _ _ q)
theorem imp_psst {X : Cx} {e : List Stmt} {t t' : TS} (h : PSsT X e t) (k : ∀ D σ H, t' D σ H → t D σ H) : PSsT X e t' := fun pins s σ H D h0 I q => h pins s σ H D h0 I (k _ _ _ q)
def gRepl (y z : List Nat) : D → R Ev
  | .str a => if a.length + (a.length + 1) * z.length ≤ 16777216 then .ok (.cl, .str (StrLaws.replL y z a)) else .bad
  | _ => .bad
theorem repl_S {y z a : List Nat} (hy : 1 ≤ y.length) : Txt.replace (S a) (S y) (S z) = S (StrLaws.replL y z a) := TL.ext_tl (by
  show (Txt.replace (S a) (S y) (S z)).cps.toList = _
  rw [StrLaws.replace_list (by rw [S_len]; exact hy), S_cps, S_cps, S_cps]
  exact (S_cps _).symm)
theorem repl_den {X : Cx} {W : WX} {fo : EF} {ys zs : Str} {y z : List Nat} (ey : ys = S y) (ez : zs = S z) (hy : 1 ≤ y.length) : ∀ σ H Q, tE X.K X.mg W (op1 (gRepl y z) fo) σ H Q → CwR.tReplC (tE X.K X.mg W fo) ys zs σ H Q := fun σ H Q ⟨hid, own, ρ, hS, h⟩ =>
  ⟨hid, own, ρ, hS, Post.part h fun e H1 v s1 r1 h1 => by
    subst ey ez
    obtain ⟨k, d⟩ := e
    cases d with
    | str a =>
      have h1 : Post X.K hid own H1 (Wc X.mg W σ) (if a.length + (a.length + 1) * z.length ≤ 16777216 then .ok (.cl, .str (StrLaws.replL y z a)) else .bad) Q := h1
      split at h1
      · rename_i hz
        refine ⟨S a, r1.rt, by rw [S_len, S_len]; exact hz, ?_⟩
        rw [repl_S hy]
        exact h1.now rfl
      · exact h1.elim
    | _ => exact h1.elim⟩
section
variable {X : Cx} {W : WX} {o e a b : Expr} {fo fe fa fb : EF} {j k : Nat} {c0 c1 apos pos : Pos} {ys zs : Str}
theorem det_of (h : DE X W e fe) : DET X W e fe := fun pins s σ H Q _ I q => h.run pins s σ H Q I q
theorem det_repl (y z : List Nat) (ho : DET X W o fo) (ey : ys = S y := by decide +kernel) (ez : zs = S z := by decide +kernel) (hy : 1 ≤ y.length := by decide) (hyz : (ys == zs) = false := by decide)
    (hst : starEach [.Constant (.str ys) j c0, .Constant (.str zs) k c1] X.env = [(false, eval (.Constant (.str ys) j c0) X.env), (false, eval (.Constant (.str zs) k c1) X.env)] := by rfl)
    (hbase : attributeBase o "replace" X.env (eval o X.env) = eval o X.env := by rfl) (hline : (apos.endLine == pos.line) = true := by rfl) :
    DET X W (.Call (.Attribute o "replace" apos) [.Constant (.str ys) j c0, .Constant (.str zs) k c1] [] pos) (op1 (gRepl y z) fo) := imp_pet (CwR.pet_replT ho hyz hst hbase hline) (repl_den ey ez hy)
theorem det_add (ha : DET X W a fa) (hb : DET X W b fb) : DET X W (.BinOp a .Add b pos) (op2 gAdd fa fb) :=
  imp_pet (CwR.pet_op (op_add.or (op_add_str.or op_cat)) ha hb) (two (OpG.or (fun x _ => isI x) opg_I0 (OpG.or (fun x _ => isS x) opg_addS opg_addL)))
theorem dst_of {st : Stmt} {f : SF} (h : DS X W st f) : DST X W st f := fun pins s σ H D _ I q => h.run pins s σ H D I q
theorem dsst_of {st : List Stmt} {f : SF} (h : DSs X W st f) : DSsT X W st f := fun pins s σ H D _ I q => h.run pins s σ H D I q
theorem dsst_cons {st : Stmt} {sts : List Stmt} {f g : SF} (h1 : DST X W st f) (h2 : DSsT X W sts g) : DSsT X W (st :: sts) (sSeq f g) := imp_psst (psst_cons h1 h2) seqD
theorem dst_ret (he : DET X W e fe) : DST X W (.Return (some e) pos) (sRet fe) :=
  imp_pst (CwR.pst_ret he) fun D σ H ⟨hid, own, ρ, hS, h⟩ => ⟨hid, own, ρ, hS, PostS.part hS h fun x H1 v s1 r1 h1 => h1 own H1 v (Ext.same s1) (RX.of r1)⟩
theorem dst_set (i : Nat) {x : Str} {pos' : Pos} (hN : X.N.Nodup) (hi : X.N[i]? = some x) (hx : Loc X.env.scope x) (he : DET X W e fe) (hs : swapsWith e (some (.Name x pos')) pos.line X.env = pure false := by rfl) (hf : X.fn x = true ∨ X.env.scope.names.lookup x = some .local := by first | exact .inl rfl | exact .inr rfl | assumption) :
    DST X W (.Assign [.Name x pos'] e pos) (sSet i fe) := by
  intro pins s σ H D h0 I ⟨hid, own, ρ, hS, h⟩
  refine wpAny_Assign_Name (thn (he pins s σ H _ h0 I ⟨hid, own, ρ, hS, PostS.part (T := fun v H1 => D.nx (σ.set i (some v)) H1) hS h fun x H1 v s1 r1 h1 => setSl_ok hS s1 r1 h1⟩) fun v s1 ⟨y, H1, I1, r1, q1⟩ => ?_) hs
  exact store_ok I1 hN hi hx r1 (fun s2 I2 => ⟨_, H1, I2, q1⟩) hf
end
section
variable {P : Program} {w : World} {K : PySem.W.Frag} {mg : Str → Option Value} {base : Heap}
theorem fn_denT {x qual : Str} {st : Stmt} {f : Addr} {fd : FuncData} {N ps : List Str} {k n : Nat} {fb : SF} (F : Fun K x qual st f fd) (S : FnScope N ps (defScope st)) (hn : ps.length = n) (hnc : ∀ y ∈ (defScope st).names, y.2 ≠ .cell) (h1 : 1 ≤ n)
    (hbody : ∀ (cdv : Value) (A : Around) (outer : List Env) (s : Shared) (H : Hp) (E : XK), Room k (A.deeper (PyProof.Rows.envOfC qual (defScope st) s.heap.objs.size f cdv)) → DSsT (cxOf (L2.CX P w) P w K mg base N qual (defScope st) f cdv A outer s H E) (fun cls d _ H => E cls d H) (defBody st) fb) :
    FnOk P w K mg base (L2.CX P w) (k + 1) f fd ps (spD K mg n (fnD N.length n fb)) := by
  obtain ⟨oc, od, kV, doc, pm, an, cdv, ct, osl, rfl, lk, hcd⟩ := F.ex
  refine fn_ofT lk hcd S hnc (by rw [hn]; exact h1) (fun vs H Q E ⟨hid, ds, _, r, hl, _⟩ => by rw [r.len, hl, hn]) fun A outer s H vs Q E hr ⟨hid, ds, hin, r, hl, h⟩ => ?_
  refine ⟨_, hbody cdv A outer s H E hr, ?_⟩
  have e : fnD N.length n fb ds = runB (fb (enter N.length ds)) := if_pos hl
  rw [e] at h
  exact ⟨hid, noOwn, _, enter_sr hin r, runB_post h⟩
end
end PL
set_option Elab.async false
set_option linter.all false
set_option maxRecDepth 100000
set_option maxHeartbeats 4000000
/-! PL9: the built-in functions by name. -/
namespace PL
open PySem PySem.Spec L2
theorem bt_len : bootBuiltins "len" = some (.builtin "len") := by decide +kernel
theorem bt_int : bootBuiltins "int" = some (.type "int") := by decide +kernel
theorem bt_str : bootBuiltins "str" = some (.type "str") := by decide +kernel
theorem bt_ord : bootBuiltins "ord" = some (.builtin "ord") := by decide +kernel
theorem bt_sum : bootBuiltins "sum" = some (.builtin "sum") := by decide +kernel
theorem bt_all : bootBuiltins "all" = some (.builtin "all") := by decide +kernel
theorem bt_any : bootBuiltins "any" = some (.builtin "any") := by decide +kernel
theorem bt_list : bootBuiltins "list" = some (.type "list") := by decide +kernel
theorem bt_tuple : bootBuiltins "tuple" = some (.type "tuple") := by decide +kernel
theorem bt_max : bootBuiltins "max" = some (.builtin "max") := by decide +kernel
theorem bt_bool : bootBuiltins "bool" = some (.type "bool") := by decide +kernel
theorem bt_isi : bootBuiltins "isinstance" = some (.builtin "isinstance") := by decide +kernel
section
variable {X : Cx} {W : WX} {e e' : Expr} {fa fb : EF} {p pos q : Pos}
theorem de_len (hg : Gl X "len") (hm : X.mg "len" = none) (ha : DE X W e fa) (hs : starEach [e] X.env = (false, eval e X.env) :: starEach [] X.env := by rfl) : DE X W (.Call (.Name "len" p) [e] [] pos) (op1 gLen fa) := de_callB call_len cg_len hg hm bt_len ha hs
theorem de_intc (hg : Gl X "int") (hm : X.mg "int" = none) (ha : DE X W e fa) (hs : starEach [e] X.env = (false, eval e X.env) :: starEach [] X.env := by rfl) : DE X W (.Call (.Name "int" p) [e] [] pos) (op1 gInt fa) := de_callT call_int1 cg_int hg hm bt_int ha hs
theorem de_strc (hg : Gl X "str") (hm : X.mg "str" = none) (ha : DE X W e fa) (hs : starEach [e] X.env = (false, eval e X.env) :: starEach [] X.env := by rfl) : DE X W (.Call (.Name "str" p) [e] [] pos) (op1 gStr fa) := de_callT call_str_int cg_str hg hm bt_str ha hs
theorem de_ord (hg : Gl X "ord") (hm : X.mg "ord" = none) (ha : DE X W e fa) (hs : starEach [e] X.env = (false, eval e X.env) :: starEach [] X.env := by rfl) : DE X W (.Call (.Name "ord" p) [e] [] pos) (op1 gOrd fa) := de_callB call_ord cg_ord hg hm bt_ord ha hs
theorem de_sum (hc : X.calm = true) (hg : Gl X "sum") (hm : X.mg "sum" = none) (ha : DE X W e fa) (hs : starEach [e] X.env = (false, eval e X.env) :: starEach [] X.env := by rfl) : DE X W (.Call (.Name "sum" p) [e] [] pos) (op1 gSum fa) := de_callB (cr_sum hc) cg_sum hg hm bt_sum ha hs
theorem de_listc (hg : Gl X "list") (hm : X.mg "list" = none) (ha : DE X W e fa) (hs : starEach [e] X.env = (false, eval e X.env) :: starEach [] X.env := by rfl) : DE X W (.Call (.Name "list" p) [e] [] pos) (op1 gList fa) := de_callT call_list_of cg_list hg hm bt_list ha hs
theorem de_tuplec (hg : Gl X "tuple") (hm : X.mg "tuple" = none) (ha : DE X W e fa) (hs : starEach [e] X.env = (false, eval e X.env) :: starEach [] X.env := by rfl) : DE X W (.Call (.Name "tuple" p) [e] [] pos) (op1 gTuple fa) := de_callT call_tuple_of cg_tuple hg hm bt_tuple ha hs
theorem de_max2 (hc : X.calm = true) (hg : Gl X "max") (hm : X.mg "max" = none) (ha : DE X W e fa) (hb : DE X W e' fb) (hs : starEach [e, e'] X.env = (false, eval e X.env) :: starEach [e'] X.env := by rfl) (hs' : starEach [e'] X.env = (false, eval e' X.env) :: starEach [] X.env := by rfl)
    (hpl : (backTo pos (starEach [e'] X.env)).any (·.1) = false := by rfl) : DE X W (.Call (.Name "max" p) [e, e'] [] pos) (op2 gMax2 fa fb) := de_callB2 (call_max2 hc) cg_max2 hg hm bt_max ha hb hs hs' hpl
theorem de_all (hc : X.calm = true) (hg : Gl X "all") (hm : X.mg "all" = none) (ha : DE X W e fa) (hs : starEach [e] X.env = (false, eval e X.env) :: starEach [] X.env := by rfl) : DE X W (.Call (.Name "all" p) [e] [] pos) (op1 (gAllAny true) fa) := de_callB (cr_all hc) cg_all hg hm bt_all ha hs
theorem de_any (hc : X.calm = true) (hg : Gl X "any") (hm : X.mg "any" = none) (ha : DE X W e fa) (hs : starEach [e] X.env = (false, eval e X.env) :: starEach [] X.env := by rfl) : DE X W (.Call (.Name "any" p) [e] [] pos) (op1 (gAllAny false) fa) := de_callB (cr_any hc) cg_any hg hm bt_any ha hs
theorem k_list : ∀ d, kitB (dty d) "list" = some (inst "list" d) := kit_all "list" (by decide +kernel)
theorem k_tuple : ∀ d, kitB (dty d) "tuple" = some (inst "tuple" d) := kit_all "tuple" (by decide +kernel)
theorem k_bool : ∀ d, kitB (dty d) "bool" = some (inst "bool" d) := kit_all "bool" (by decide +kernel)
theorem k_int : ∀ d, kitB (dty d) "int" = some (inst "int" d) := kit_all "int" (by decide +kernel)
theorem k_str : ∀ d, kitB (dty d) "str" = some (inst "str" d) := kit_all "str" (by decide +kernel)
end
theorem un_of {A : Around} {k : Nat} (hr : Room k A) : A.units + 64 < cLine := Nat.lt_of_le_of_lt (by omega) hr.un
end PL
set_option Elab.async false
set_option linter.all false
set_option maxRecDepth 100000
set_option maxHeartbeats 4000000
/-! PE1: what denotations answer: rules with side conditions. -/
namespace PL
open PySem PySem.Spec L2

section
variable {ρ : Ro} {fa fb : EF} {k k1 k2 : Kd} {x y : D} {r : R Ev}
theorem lcF_ok {f : IF} {vs : List Nat} {g : GF} {tt : TF} {el : EF} {p : Bool × List D} {ys : List D} (hf : f ρ = .ok p) (hz : p.2.length ≤ 16777216) (hl : lcA (turnD g tt el (wipeR ρ vs)) p.2 = .ok ys) : lcF f vs g tt el ρ = .ok (.fr, .lst ys) := by
  unfold lcF
  rw [hf]
  show (if p.2.length ≤ 16777216 then _ else _) = _
  rw [if_pos hz, hl]
  rfl
theorem lcA_all {h : D → R (Option D)} {g : D → D} : ∀ {ds : List D}, (∀ d ∈ ds, h d = .ok (some (g d))) → lcA h ds = .ok (ds.map g)
  | [], _ => rfl
  | d :: ds, q => by
    unfold lcA
    rw [q d List.mem_cons_self, lcA_all fun e he => q e (List.mem_cons_of_mem _ he)]
    rfl
theorem lcA_map {α : Type} {h : D → R (Option D)} {k : α → D} {g : α → D} : ∀ {xs : List α}, (∀ a ∈ xs, h (k a) = .ok (some (g a))) → lcA h (xs.map k) = .ok (xs.map g)
  | [], _ => rfl
  | a :: xs, q => by
    rw [List.map_cons, List.map_cons]
    unfold lcA
    rw [q a List.mem_cons_self, lcA_map fun e he => q e (List.mem_cons_of_mem _ he)]
    rfl
theorem lcA_sift {α : Type} {h : D → R (Option D)} {k : α → D} {g : α → D} {p : α → Bool} : ∀ {xs : List α}, (∀ a ∈ xs, h (k a) = .ok (if p a = true then some (g a) else none)) → lcA h (xs.map k) = .ok ((xs.filter p).map g)
  | [], _ => rfl
  | a :: xs, q => by
    rw [List.map_cons]
    unfold lcA
    rw [q a List.mem_cons_self, lcA_sift fun e he => q e (List.mem_cons_of_mem _ he)]
    cases c : p a with
    | true => rw [List.filter_cons_of_pos c]; rfl
    | false => rw [List.filter_cons_of_neg (by rw [c]; exact Bool.false_ne_true)]; rfl
/-- a turn of a comprehension -/
theorem turn_ok {g : GF} {tt : TF} {el : EF} {ρ0 ρ1 : Ro} {d : D} {e : Ev} (hg : g d ρ0 = some ρ1) (ht : tt ρ1 = .ok true) (he : el ρ1 = .ok e) (hk : okE e = true) : turnD g tt el ρ0 d = .ok (some e.2) := by
  unfold turnD
  simp only [hg, ht, he, hk, R.calm_ok, R.bind_ok, if_true]
theorem turn_no {g : GF} {tt : TF} {el : EF} {ρ0 ρ1 : Ro} {d : D} (hg : g d ρ0 = some ρ1) (ht : tt ρ1 = .ok false) : turnD g tt el ρ0 d = .ok none := by
  unfold turnD
  simp only [hg, ht, R.calm_ok, R.bind_ok, Bool.false_eq_true, if_false]
theorem op2_ok {g : D → D → R Ev} (ha : fa ρ = .ok (k1, x)) (hb : fb ρ = .ok (k2, y)) (hg : g x y = r) : op2 g fa fb ρ = r := by
  unfold op2; rw [ha, R.bind_ok, hb, R.bind_ok]; exact hg
theorem op1_ok {g : D → R Ev} (ha : fa ρ = .ok (k1, x)) (hg : g x = r) : op1 g fa ρ = r := by
  unfold op1; rw [ha, R.bind_ok]; exact hg
theorem mth1_ok {g : D → D → R Ev} {a : List Nat} (ha : fa ρ = .ok (k1, .str a)) (hb : fb ρ = .ok (k2, y)) (hg : g (.str a) y = r) : mth1 g fa fb ρ = r := by
  unfold mth1; rw [ha, R.bind_ok]
  show (if true = true then _ else _) = _
  rw [if_pos rfl, hb, R.bind_ok]; exact hg
theorem t2_ok {g : D → D → R Ev} {b : Bool} (ha : fa ρ = .ok (k1, x)) (hb : fb ρ = .ok (k2, y)) (hg : g x y = .ok (k, .bl b)) : t2 g fa fb ρ = .ok b := by
  unfold t2; rw [op2_ok ha hb hg]; rfl
theorem gAdd_s {a b : List Nat} (h : a.length + b.length ≤ 16777216) : gAdd (.str a) (.str b) = .ok (.cl, .str (a ++ b)) := by rw [gAdd_str, if_pos h]
theorem gAdd_l {a b : List D} (h : a.length + b.length ≤ 16777216) : gAdd (.lst a) (.lst b) = .ok (.fr, .lst (a ++ b)) := by rw [gAdd_lst, if_pos h]
theorem gLen_s {a : List Nat} (h : a.length ≤ 16777216) : gLen (.str a) = .ok (.cl, .int a.length) := if_pos h
theorem gSl_s {a : List Nat} {lo hi : Option Int} (h : a.length ≤ 16777216) : gSl (.str a) lo hi = .ok (.cl, .str (cutL a lo hi)) := if_pos h
theorem gTru_s {a : List Nat} (h : a.length ≤ 16777216) : gTru (.str a) = .ok (!a.isEmpty) := if_pos h
theorem gMul_i {i j : Int} (h : -(2 ^ 64) < j ∧ j < 2 ^ 64) : gMulI (.int i) (.int j) = .ok (.cl, .int (i * j)) := if_pos (by
  unfold cMul
  rw [Bool.or_eq_true, decide_eq_true_eq, decide_eq_true_eq]
  exact .inr h)
theorem gMul_i' {i j : Int} (h : -(2 ^ 64) < i ∧ i < 2 ^ 64) : gMulI (.int i) (.int j) = .ok (.cl, .int (i * j)) := if_pos (by
  unfold cMul
  rw [Bool.or_eq_true, decide_eq_true_eq, decide_eq_true_eq]
  exact .inl h)
theorem gMod_i {i j : Int} (h : 0 < j) : gMod (.int i) (.int j) = .ok (.cl, .int (i % j)) := if_pos (decide_eq_true h)
theorem gFdiv_i {i j : Int} (h : 0 < j ∧ j < 1073741824) : gFdiv (.int i) (.int j) = .ok (.cl, .int (i / j)) := if_pos (decide_eq_true h)
theorem gPow_i {i j : Int} (h : 0 ≤ j ∧ j ≤ 1000000 ∧ i.natAbs < 2 ^ 64) : gPow (.int i) (.int j) = .ok (.cl, .int (i ^ j.toNat)) := if_pos (decide_eq_true h)
theorem gSub_i {i j : Int} : gSub (.int i) (.int j) = .ok (.cl, .int (i - j)) := rfl
theorem gAdd_i {i j : Int} : gAdd (.int i) (.int j) = .ok (.cl, .int (i + j)) := rfl
theorem gMulS_ok {a : List Nat} {n : Nat} (h : n < 16777216 ∧ a.length * n ≤ 16777216) : gMulS (.str a) (.int n) = .ok (.cl, .str (List.replicate n a).flatten) := by
  show (if (n : Int) < 16777216 ∧ 0 ≤ (n : Int) ∧ a.length * (n : Int).toNat ≤ 16777216 then R.ok (Kd.cl, D.str (List.replicate (n : Int).toNat a).flatten) else .bad) = _
  rw [Int.toNat_natCast, if_pos ⟨by omega, Int.natCast_nonneg n, h.2⟩]
theorem nn64 {n : Nat} (h : n < 2 ^ 64) : 0 ≤ (n : Int) ∧ (n : Int) < 2 ^ 64 := ⟨Int.natCast_nonneg n, by omega⟩
theorem gStr_ok {n : Nat} (h : n < 2 ^ 64) : gStr (.int n) = .ok (.cl, .str (TL.numL n)) := by
  have q := nn64 h
  unfold gStr
  simp only [q, and_self, if_true, Int.toNat_natCast]
theorem gSplit_ok {a b : List Nat} (h : a.length + 2 ≤ 16777216) (hb : b ≠ []) (hk : all256 b = true) : gSplit (.str a) (.str b) = .ok (.fr, .lst ((TL.spl b 0 [] a).map D.str)) := if_pos ⟨h, hb, hk⟩
theorem gPart_ok {a b : List Nat} (h : a.length ≤ 16777216) (hb : b ≠ []) : gPart (.str a) (.str b) = .ok (.cl, match TL.par b [] a with
      | some (p, q) => .tup [.str p, .str b, .str q]
      | none => .tup [.str a, .str [], .str []]) := if_pos ⟨h, hb⟩
theorem gJoin_l {a : List Nat} {ns : List (List Nat)} (h : joinSize a ns ≤ 16777216) : gJoin (.str a) (.lst (ns.map D.str)) = .ok (.cl, .str (TL.joinL a ns)) := by
  show joinR a (ns.map D.str) = _
  unfold joinR
  rw [unS_map]
  exact if_pos h
theorem gRepl_ok {y z a : List Nat} (h : a.length + (a.length + 1) * z.length ≤ 16777216) : gRepl y z (.str a) = .ok (.cl, .str (StrLaws.replL y z a)) := if_pos h
theorem fFmt_s {a : List Nat} (ha : fa ρ = .ok (k, .str a)) (h : a.length ≤ 16777216) : fFmt fa ρ = .ok (.cl, .str a) := op1_ok ha (if_pos h)
theorem fFmt_i {n : Nat} (ha : fa ρ = .ok (k, .int n)) (h : n < 2 ^ 64) : fFmt fa ρ = .ok (.cl, .str (TL.numL n)) := op1_ok ha (by
  show (if 0 ≤ (n : Int) ∧ (n : Int) < 2 ^ 64 then R.ok (Kd.cl, D.str (TL.numL (n : Int).toNat)) else .bad) = _
  rw [Int.toNat_natCast]
  exact if_pos (nn64 h))
theorem eFs_cons {f : EF} {fs : List EF} {acc y : List Nat} (hf : f ρ = .ok (k, .str y)) (h : (acc ++ y).length ≤ 16777216) : eFs (f :: fs) acc ρ = eFs fs (acc ++ y) ρ := by
  show (f ρ).bind _ = _
  rw [hf]
  exact if_pos h
theorem eFs_nil {acc : List Nat} : eFs [] acc ρ = .ok (.cl, .str acc) := rfl
/-! subscripts -/
theorem ixN_nat {n i : Nat} (h : i < n) : ixN n (i : Int) = some i := by
  unfold ixN
  rw [if_pos (by omega), if_pos (by omega)]
  rfl
theorem atI_nat' {α : Type} {xs : List α} {i : Nat} {a : α} (h : xs[i]? = some a) : atI xs (i : Int) = some a := by
  unfold atI
  rw [ixN_nat (List.getElem?_eq_some_iff.mp h).1]
  exact h
theorem gIx_l {xs : List D} {i : Nat} {d : D} (h : xs[i]? = some d) : gIx (.lst xs) (.int i) = .ok (.cl, d) := by
  show (match atI xs (i : Int) with | some d => R.ok (Kd.cl, d) | none => .bad) = _
  rw [atI_nat' h]
theorem gIx_r {xs : List D} {i : Nat} {d : D} (h : xs[i]? = some d) : gIx (.rol xs) (.int i) = .ok (.cl, d) := by
  show (match atI xs (i : Int) with | some d => R.ok (Kd.cl, d) | none => .bad) = _
  rw [atI_nat' h]
theorem gIx_t {xs : List D} {i : Nat} {d : D} (h : xs[i]? = some d) : gIx (.tup xs) (.int i) = .ok (.cl, d) := by
  show (match atI xs (i : Int) with | some d => R.ok (Kd.cl, d) | none => .bad) = _
  rw [atI_nat' h]
theorem gIx_s {xs : List Nat} {i c : Nat} (hz : xs.length ≤ 16777216) (h : xs[i]? = some c) : gIx (.str xs) (.int i) = .ok (.cl, .str [c]) := by
  show (if xs.length ≤ 16777216 then (match atI xs (i : Int) with | some c => R.ok (Kd.cl, D.str [c]) | none => .bad) else .bad) = _
  rw [if_pos hz, atI_nat' h]
/-! slices -/
theorem sIx_n (n d i : Nat) : HT.sIx n d (some (i : Int)) = min i n := HT.sIx_nat n d i
theorem cut_to {α : Type} (xs : List α) (i : Nat) : cutL xs (some 0) (some (i : Int)) = xs.take i := by
  unfold cutL
  rw [sIx_n, show HT.sIx xs.length 0 (some (0 : Int)) = min 0 xs.length from HT.sIx_nat xs.length 0 0, Nat.zero_min, List.drop_zero, Nat.sub_zero]
  by_cases h : i ≤ xs.length
  · rw [Nat.min_eq_left h]
  · rw [Nat.min_eq_right (by omega), List.take_of_length_le (Nat.le_refl _), List.take_of_length_le (by omega)]
theorem cut_from {α : Type} (xs : List α) (i : Nat) : cutL xs (some (i : Int)) none = xs.drop i := by
  unfold cutL
  rw [sIx_n, HT.sIx_none]
  by_cases h : i ≤ xs.length
  · rw [Nat.min_eq_left h, List.take_of_length_le (by rw [List.length_drop]; exact Nat.le_refl _)]
  · rw [Nat.min_eq_right (by omega), List.drop_length, List.drop_eq_nil_of_le (by omega), List.take_nil]
theorem cut_mid {α : Type} (xs : List α) (i j : Nat) : cutL xs (some (i : Int)) (some (j : Int)) = (xs.take j).drop i := by
  unfold cutL
  rw [sIx_n, sIx_n, List.drop_take]
  by_cases h : i ≤ xs.length
  · rw [Nat.min_eq_left h]
    by_cases h2 : j ≤ xs.length
    · rw [Nat.min_eq_left h2]
    · rw [Nat.min_eq_right (by omega : xs.length ≤ j), List.take_of_length_le (by rw [List.length_drop]; exact Nat.le_refl _), List.take_of_length_le (by rw [List.length_drop]; omega)]
  · rw [Nat.min_eq_right (by omega : xs.length ≤ i), List.drop_length, List.drop_eq_nil_of_le (by omega : xs.length ≤ i), List.take_nil, List.take_nil]
theorem cut_init {α : Type} (xs : List α) : cutL xs none (some (-1)) = xs.dropLast := by
  unfold cutL
  rw [HT.sIx_none]
  have : HT.sIx xs.length xs.length (some (-1)) = xs.length - 1 := by
    unfold HT.sIx
    cases xs with
    | nil => rfl
    | cons a r => simp; omega
  rw [this, List.drop_zero, Nat.sub_zero, List.dropLast_eq_take]
theorem cut_len {α : Type} (xs : List α) (lo hi : Option Int) : (cutL xs lo hi).length ≤ xs.length := by
  unfold cutL
  rw [List.length_take, List.length_drop]
  omega
/-! calls -/
theorem eCall_ok {f : FD} {n : Nat} {fs : AF} {es : List Ev} {ds : List D} {r : Ev} (ha : fs ρ = .ok es) (hd : es.map (·.2) = ds) (hn : es.length = n) (hf : f ds = .ok r) (hl : noLE r = true) : eCall f n fs ρ = .ok r := by
  subst hd
  unfold eCall
  rw [ha, R.bind_ok, if_pos hn, hf]
  cases es.any pkL with
  | true => rw [if_pos rfl]; exact if_pos hl
  | false => rw [if_neg Bool.false_ne_true]
theorem fn_ok {N n : Nat} {f : SF} {ds : List D} {ρ0 : Ro} {s : SRes} {q : R Ev} (hn : ds.length = n) (he : enter N ds = ρ0) (hb : f ρ0 = s) (hr : runB s = q) : fnD N n f ds = q := by
  unfold fnD
  rw [if_pos hn, he, hb, hr]
theorem sRet_ok {e : Ev} (h : fa ρ = .ok e) : sRet fa ρ = .rt e := by unfold sRet; rw [h]; rfl
theorem sRetV_l {i : Nat} {d : D} (h : ρ[i]? = some (some (true, d))) : sRetV i ρ = .rt (.fr, d) := by unfold sRetV; rw [h]
theorem sSet_f {i : Nat} {d : D} (h : fa ρ = .ok (.fr, d)) (hi : i < ρ.length) : sSet i fa ρ = .nx (ρ.set i (some (true, d))) := by unfold sSet; rw [h]; exact if_pos hi
theorem sSet_c {i : Nat} {d : D} (h : fa ρ = .ok (.cl, d)) : sSet i fa ρ = .nx (ρ.set i (some (false, d))) := by unfold sSet; rw [h]; rfl
theorem sSeq_n {f g : SF} {ρ1 : Ro} {s : SRes} (h : f ρ = .nx ρ1) (k : g ρ1 = s) : sSeq f g ρ = s := by unfold sSeq; rw [h]; exact k
theorem sSeq_r {f g : SF} {e : Ev} (h : f ρ = .rt e) : sSeq f g ρ = .rt e := by unfold sSeq; rw [h]
theorem sIf_t {t : TF} {f g : SF} {s : SRes} (h : t ρ = .ok true) (k : f ρ = s) : sIf t f g ρ = s := by unfold sIf; rw [h]; exact k
theorem sIf_f {t : TF} {f g : SF} {s : SRes} (h : t ρ = .ok false) (k : g ρ = s) : sIf t f g ρ = s := by unfold sIf; rw [h]; exact k
theorem sApp_ok {i : Nat} {ds : List D} {e : Ev} (hr : ρ[i]? = some (some (true, .lst ds))) (h : fa ρ = .ok e) (hk : okE e = true) (hz : ds.length < 16777216) : sApp i fa ρ = .nx (ρ.set i (some (true, .lst (ds ++ [e.2])))) := by
  unfold sApp; rw [hr]
  show sOf (fa ρ) ρ _ = _
  rw [h]
  exact if_pos ⟨hk, hz⟩
theorem sFor_ok {fi : IF} {g : GF} {fb : SF} {ds : List D} {s : SRes} (h : fi ρ = .ok (false, ds)) (k : forL g fb ds ρ = s) : sFor fi g fb ρ = s := by unfold sFor; rw [h]; exact k
theorem forL_n {g : GF} {fb : SF} {d : D} {ds : List D} {ρ1 ρ2 : Ro} {s : SRes} (hg : g d ρ = some ρ1) (hb : fb ρ1 = .nx ρ2) (k : forL g fb ds ρ2 = s) : forL g fb (d :: ds) ρ = s := by
  unfold forL; rw [hg]
  show (match fb ρ1 with | .nx ρ2 => forL g fb ds ρ2 | .ct ρ2 => forL g fb ds ρ2 | .bk ρ2 => .nx ρ2 | r => r) = s
  rw [hb]; exact k
theorem forL_r {g : GF} {fb : SF} {d : D} {ds : List D} {ρ1 : Ro} {e : Ev} (hg : g d ρ = some ρ1) (hb : fb ρ1 = .rt e) : forL g fb (d :: ds) ρ = .rt e := by
  unfold forL; rw [hg]
  show (match fb ρ1 with | .nx ρ2 => forL g fb ds ρ2 | .ct ρ2 => forL g fb ds ρ2 | .bk ρ2 => .nx ρ2 | r => r) = _
  rw [hb]
theorem tAnd_t {t u : TF} {b : Bool} (h : t ρ = .ok true) (k : u ρ = .ok b) : tAndF t u ρ = .ok b := by unfold tAndF; rw [h, R.bind_ok, if_pos rfl, k]
theorem tAnd_f {t u : TF} (h : t ρ = .ok false) : tAndF t u ρ = .ok false := by unfold tAndF; rw [h, R.bind_ok, if_neg Bool.false_ne_true]
theorem tOr_t {t u : TF} (h : t ρ = .ok true) : tOrF t u ρ = .ok true := by unfold tOrF; rw [h, R.bind_ok, if_pos rfl]
theorem tOr_f {t u : TF} {b : Bool} (h : t ρ = .ok false) (k : u ρ = .ok b) : tOrF t u ρ = .ok b := by unfold tOrF; rw [h, R.bind_ok, if_neg Bool.false_ne_true, k]
theorem tOr_ok {t u : TF} {a b : Bool} (h : t ρ = .ok a) (k : u ρ = .ok b) : tOrF t u ρ = .ok (a || b) := by cases a; exact tOr_f h k; exact tOr_t h
theorem tNot_ok {t : TF} {b : Bool} (h : t ρ = .ok b) : tNotF t ρ = .ok (!b) := by unfold tNotF; rw [h, R.bind_ok]
theorem tVal_b {b : Bool} (h : fa ρ = .ok (k, .bl b)) : tVal fa ρ = .ok b := by unfold tVal; rw [h, R.bind_ok]; rfl
theorem eIf_t {t : TF} {q : R Ev} (h : t ρ = .ok true) (k : fa ρ = q) : eIf t fa fb ρ = q := by unfold eIf; rw [h, R.bind_ok, if_pos rfl, k]
theorem eIf_f {t : TF} {q : R Ev} (h : t ρ = .ok false) (k : fb ρ = q) : eIf t fa fb ρ = q := by unfold eIf; rw [h, R.bind_ok, if_neg Bool.false_ne_true, k]
theorem gEq_s {a b : List Nat} : gEq (.str a) (.str b) = .ok (.cl, .bl (a == b)) := rfl
theorem gNe_s {a b : List Nat} : gNe (.str a) (.str b) = .ok (.cl, .bl (!(a == b))) := rfl
theorem gEq_i {a b : Int} : gEq (.int a) (.int b) = .ok (.cl, .bl (a == b)) := rfl
theorem gNe_i {a b : Int} : gNe (.int a) (.int b) = .ok (.cl, .bl (!(a == b))) := rfl
theorem aCons_ok {fs : AF} {e : Ev} {es : List Ev} (ha : fa ρ = .ok e) (hs : fs ρ = .ok es) : aCons fa fs ρ = .ok (e :: es) := by
  unfold aCons; rw [ha, R.bind_ok, hs, R.bind_ok]
theorem disp_ok {mk : List D → Ev} {fs : AF} {es : List Ev} {ds : List D} (hs : fs ρ = .ok es) (hk : es.all okE = true) (hn : es.length ≤ 16777216) (hd : es.map (·.2) = ds) : disp mk fs ρ = .ok (mk ds) := by
  subst hd
  unfold disp; rw [hs, R.bind_ok]
  exact if_pos ⟨hk, hn⟩
theorem noLs_strs (ns : List (List Nat)) : noLs (ns.map D.str) = true := by
  induction ns with
  | nil => rfl
  | cons n r ih =>
    show (noL (.str n) && noLs (r.map D.str)) = true
    rw [ih]; rfl
theorem noLs_ints (ns : List Int) : noLs (ns.map D.int) = true := by
  induction ns with
  | nil => rfl
  | cons n r ih =>
    show (noL (.int n) && noLs (r.map D.int)) = true
    rw [ih]; rfl
end
end PL
set_option Elab.async false
set_option linter.all false
set_option maxRecDepth 100000
set_option maxHeartbeats 4000000
namespace PL
open PySem PySem.Spec L2
def topS (i : Nat) : Stmt := PySem.Challenge.pw_asifanew_k62_whole_journals_and_their_re.main.body.getD i (.Pass ⟨0, 0, 0, 0⟩)
abbrev st_check_of : Stmt := topS 3
abbrev N_check_of : List Str := ["string", "k", "sign"]
theorem sc_check_of : FnScope N_check_of ["string"] (defScope st_check_of) := ⟨rfl, rfl, rfl, by decide +kernel, rfl, by decide +kernel, by decide +kernel⟩
abbrev st_record : Stmt := topS 4
abbrev N_record : List Str := ["number", "payload"]
theorem sc_record : FnScope N_record ["number", "payload"] (defScope st_record) := ⟨rfl, rfl, rfl, by decide +kernel, rfl, by decide +kernel, by decide +kernel⟩
abbrev st_journal_of : Stmt := topS 5
abbrev N_journal_of : List Str := ["payloads", "k", "payload"]
theorem sc_journal_of : FnScope N_journal_of ["payloads"] (defScope st_journal_of) := ⟨rfl, rfl, rfl, by decide +kernel, rfl, by decide +kernel, by decide +kernel⟩
abbrev st_payload_in : Stmt := topS 6
abbrev N_payload_in : List Str := ["number", "row", "payload", "sign"]
theorem sc_payload_in : FnScope N_payload_in ["number", "row"] (defScope st_payload_in) := ⟨rfl, rfl, rfl, by decide +kernel, rfl, by decide +kernel, by decide +kernel⟩
abbrev st_payloads_in : Stmt := topS 7
abbrev N_payloads_in : List Str := ["string", "found", "row", "payload"]
theorem sc_payloads_in : FnScope N_payloads_in ["string"] (defScope st_payloads_in) := ⟨rfl, rfl, rfl, by decide +kernel, rfl, by decide +kernel, by decide +kernel⟩
abbrev st__law_cell : Stmt := topS 9
abbrev N__law_cell : List Str := ["script", "k"]
theorem sc__law_cell : FnScope N__law_cell ["script", "k"] (defScope st__law_cell) := ⟨rfl, rfl, rfl, by decide +kernel, rfl, by decide +kernel, by decide +kernel⟩
abbrev st__law_numbers : Stmt := topS 10
abbrev N__law_numbers : List Str := ["cell", "count", "limit", "found", "k", "mixed"]
theorem sc__law_numbers : FnScope N__law_numbers ["cell", "count", "limit"] (defScope st__law_numbers) := ⟨rfl, rfl, rfl, by decide +kernel, rfl, by decide +kernel, by decide +kernel⟩
abbrev st__law_same : Stmt := topS 11
abbrev N__law_same : List Str := ["told", "due", "k"]
theorem sc__law_same : FnScope N__law_same ["told", "due"] (defScope st__law_same) := ⟨rfl, rfl, rfl, by decide +kernel, rfl, by decide +kernel, by decide +kernel⟩
abbrev st__law_signs : Stmt := topS 12
abbrev N__law_signs : List Str := ["draw", "count", "known", "number"]
theorem sc__law_signs : FnScope N__law_signs ["draw", "count"] (defScope st__law_signs) := ⟨rfl, rfl, rfl, by decide +kernel, rfl, by decide +kernel, by decide +kernel⟩
abbrev st__law_bent : Stmt := topS 13
abbrev N__law_bent : List Str := ["text", "draws", "at", "signs", "spot", "sign", "kind"]
theorem sc__law_bent : FnScope N__law_bent ["text", "draws", "at"] (defScope st__law_bent) := ⟨rfl, rfl, rfl, by decide +kernel, rfl, by decide +kernel, by decide +kernel⟩
abbrev st__law_check_of : Stmt := topS 14
abbrev N__law_check_of : List Str := ["text", "total", "k"]
theorem sc__law_check_of : FnScope N__law_check_of ["text"] (defScope st__law_check_of) := ⟨rfl, rfl, rfl, by decide +kernel, rfl, by decide +kernel, by decide +kernel⟩
abbrev st__law_record : Stmt := topS 15
abbrev N__law_record : List Str := ["number", "payload"]
theorem sc__law_record : FnScope N__law_record ["number", "payload"] (defScope st__law_record) := ⟨rfl, rfl, rfl, by decide +kernel, rfl, by decide +kernel, by decide +kernel⟩
abbrev st__law_journal : Stmt := topS 16
abbrev N__law_journal : List Str := ["payloads", "k"]
theorem sc__law_journal : FnScope N__law_journal ["payloads"] (defScope st__law_journal) := ⟨rfl, rfl, rfl, by decide +kernel, rfl, by decide +kernel, by decide +kernel⟩
abbrev st__law_records : Stmt := topS 17
abbrev N__law_records : List Str := ["text", "found", "row", "words", "payload", "bad", "sign"]
theorem sc__law_records : FnScope N__law_records ["text"] (defScope st__law_records) := ⟨rfl, rfl, rfl, by decide +kernel, rfl, by decide +kernel, by decide +kernel⟩
abbrev st__law_drawn : Stmt := topS 18
abbrev N__law_drawn : List Str := ["draw", "count"]
theorem sc__law_drawn : FnScope N__law_drawn ["draw", "count"] (defScope st__law_drawn) := ⟨rfl, rfl, rfl, by decide +kernel, rfl, by decide +kernel, by decide +kernel⟩
abbrev st__law_spoilt_rows : Stmt := topS 19
abbrev N__law_spoilt_rows : List Str := ["lines", "draws", "text", "k", "line", "spot", "before", "row", "rest", "head", "sign", "turned"]
theorem sc__law_spoilt_rows : FnScope N__law_spoilt_rows ["lines", "draws"] (defScope st__law_spoilt_rows) := ⟨rfl, rfl, rfl, by decide +kernel, rfl, by decide +kernel, by decide +kernel⟩
abbrev st__law_texts : Stmt := topS 20
abbrev N__law_texts : List Str := ["lines", "draws", "text", "at", "rest", "rows", "row", "found"]
theorem sc__law_texts : FnScope N__law_texts ["lines", "draws"] (defScope st__law_texts) := ⟨rfl, rfl, rfl, by decide +kernel, rfl, by decide +kernel, by decide +kernel⟩
abbrev st_law : Stmt := topS 21
abbrev N_law : List Str := ["script", "more", "lines", "k", "kept", "line", "text", "turn", "told"]
theorem sc_law : FnScope N_law ["script"] (defScope st_law) := ⟨rfl, rfl, rfl, by decide +kernel, rfl, by decide +kernel, by decide +kernel⟩
/-! the denotations -/
def B_check_of : SF :=
    sRet (op2 gMod (op1 gSum (lcF (iEnum' (eVar 0)) [1, 2] (gTp 2 (gsCons (gNm 1) (gsCons (gNm 2) (gsNil)))) (tYesF) (op2 gMulI (op2 gAdd (eVar 1) (eC (.int 1))) (op1 gOrd (eVar 2))))) (eC (.int 977)))
def F_check_of : FD := fnD 3 1 B_check_of
def B_record : SF :=
    sRet (eFs [fFmt (eVar 0), eC (.str [44]), fFmt (eCall (F_check_of) 1 (aCons (eVar 1) (aNil))), eC (.str [44]), fFmt (eVar 1), eC (.str [10])] [])
def F_record : FD := fnD 2 2 B_record
def B_journal_of : SF :=
    sRet (mth1 gJoin (eC (.str [])) (lcF (iEnum' (eVar 0)) [1, 2] (gTp 2 (gsCons (gNm 1) (gsCons (gNm 2) (gsNil)))) (tYesF) (eCall (F_record) 2 (aCons (op2 gAdd (eVar 1) (eC (.int 1))) (aCons (eVar 2) (aNil))))))
def F_journal_of : FD := fnD 3 1 B_journal_of
def B_payload_in : SF :=
    sSeq (sSet 2 (op2 gIx (mth1 gPart (op2 gIx (mth1 gPart (eVar 1) (eC (.str [44]))) (eC (.int 2))) (eC (.str [44]))) (eC (.int 2)))) <|
    sSeq (sIf (tOrF (t2 gGt (op1 gLen (eVar 2)) (eC (.int 20010))) (tNotF (tVal (op1 (gAllAny true) (lcF (iVal (eVar 2)) [3] (gNm 3) (tYesF) (chn gLe gLe (eC (.str [32])) (eVar 3) (eC (.str [126])))))))) (sRet (eC .non)) (sSkip)) <|
    sRet (eIf (t2 gEq (eCall (F_record) 2 (aCons (eVar 0) (aCons (eVar 2) (aNil)))) (op2 gAdd (eVar 1) (eC (.str [10])))) (eVar 2) (eC .non))
def F_payload_in : FD := fnD 4 2 B_payload_in
def B_payloads_in : SF :=
    sSeq (sSet 1 (disp (fun ds => (.fr, .lst ds)) (aNil))) <|
    sSeq (sFor (iVal (eSl (mth1 gSplit (eVar 0) (eC (.str [10]))) (oNo) (oSome (eNeg (eC (.int 1)))))) (gNm 2) (sSeq (sSet 3 (eCall (F_payload_in) 2 (aCons (op2 gAdd (op1 gLen (eVar 1)) (eC (.int 1))) (aCons (eVar 2) (aNil))))) <|
    sSeq (sIf (tE' (eIsN false (eVar 3))) (sRetV 1) (sSkip)) <|
    sApp 1 (eVar 3))) <|
    sRetV 1
def F_payloads_in : FD := fnD 4 1 B_payloads_in
def B__law_cell : SF :=
    sSeq (sIf (t2 gLt (eVar 1) (op1 gLen (eVar 0))) (sRet (op1 gInt (op2 gIx (eVar 0) (eVar 1)))) (sSkip)) <|
    sRet (eC (.int 0))
def F__law_cell : FD := fnD 2 2 B__law_cell
def B__law_numbers : SF :=
    sSeq (sSet 3 (disp (fun ds => (.fr, .lst ds)) (aNil))) <|
    sSeq (sIf (t2 gGe (eVar 0) (op2 gPow (eC (.int 10)) (eC (.int 18)))) (sSeq (sFor (iRng (eVar 1)) (gNm 4) (sSeq (sApp 3 (op2 gMod (op1 gInt (eVar 0)) (eVar 2))) <|
    sSet 0 (op2 gFdiv (op1 gInt (eVar 0)) (eVar 2)))) <|
    sRetV 3) (sSkip)) <|
    sSeq (sFor (iRng (eVar 1)) (gNm 4) (sSeq (sSet 5 (op2 gMod (op1 gInt (op2 gAdd (op2 gAdd (op2 gMulI (eVar 0) (eC (.int 48271))) (op2 gMulI (eVar 4) (eC (.int 69621)))) (eC (.int 7)))) (eC (.int 2147483647)))) <|
    sSeq (sSet 5 (op2 gMod (op1 gInt (op2 gAdd (op2 gAdd (op2 gAdd (op2 gMulI (eVar 5) (eVar 5)) (op2 gMulI (eVar 5) (eC (.int 40692)))) (op2 gMulI (eVar 4) (eC (.int 16807)))) (eC (.int 11)))) (eC (.int 2147483399)))) <|
    sApp 3 (op2 gMod (op1 gInt (op2 gFdiv (eVar 5) (eC (.int 32)))) (eVar 2)))) <|
    sRetV 3
def F__law_numbers : FD := fnD 6 3 B__law_numbers
def B__law_same (G : FD) : SF :=
    sSeq (sIf (tVal (eIsi "list" (eVar 1))) (sIf (tOrF (tNotF (tVal (eIsi "list" (eVar 0)))) (t2 gNe (op1 gLen (eVar 0)) (op1 gLen (eVar 1)))) (sRet (eC (.bl false))) (sSkip)) (sIf (tVal (eIsi "tuple" (eVar 1))) (sIf (tOrF (tNotF (tVal (eIsi "tuple" (eVar 0)))) (t2 gNe (op1 gLen (eVar 0)) (op1 gLen (eVar 1)))) (sRet (eC (.bl false))) (sSkip)) (sIf (tE' (eIsN false (eVar 1))) (sRet (eIsN false (eVar 0))) (sIf (tVal (eIsi "bool" (eVar 1))) (sRet (eAnd (eIsi "bool" (eVar 0)) (op2 gEq (eVar 0) (eVar 1)))) (sIf (tVal (eIsi "int" (eVar 1))) (sRet (eAnd (eIsi "int" (eVar 0)) (eAnd (eNot (eIsi "bool" (eVar 0))) (op2 gEq (eVar 0) (eVar 1))))) (sRet (eAnd (eIsi "str" (eVar 0)) (op2 gEq (eVar 0) (eVar 1))))))))) <|
    sSeq (sFor (iRng (op1 gLen (eVar 1))) (gNm 2) (sIf (tNotF (tVal (eCall (G) 2 (aCons (op2 gIx (eVar 0) (eVar 2)) (aCons (op2 gIx (eVar 1) (eVar 2)) (aNil)))))) (sRet (eC (.bl false))) (sSkip))) <|
    sRet (eC (.bl true))
def F__law_same : Nat → FD
  | 0 => fun _ => .bad
  | k + 1 => fnD 3 2 (B__law_same (F__law_same k))
def B__law_signs : SF :=
    sSeq (sSet 2 (eC (.str [32, 33, 34, 35, 36, 38, 39, 40, 41, 42, 43, 44, 45, 46, 47, 48, 49, 50, 51, 52, 53, 54, 55, 56, 57, 58, 59, 60, 61, 62, 63, 64, 65, 66, 67, 88, 89, 90, 91, 92, 93, 94, 95, 97, 98, 99, 100, 101, 102, 103, 104, 105, 106, 107, 108, 109, 110, 111, 112, 113, 114, 115, 116, 117, 118, 119, 120, 121, 122, 123, 124, 125, 126, 10]))) <|
    sRet (mth1 gJoin (eC (.str [])) (lcF (iVal (eCall (F__law_numbers) 3 (aCons (eVar 0) (aCons (eVar 1) (aCons (op1 gLen (eVar 2)) (aNil)))))) [3] (gNm 3) (tYesF) (op2 gIx (eVar 2) (eVar 3))))
def F__law_signs : FD := fnD 4 2 B__law_signs
def B__law_bent : SF :=
    sSeq (sSet 3 (eC (.str [48, 49, 50, 51, 52, 53, 54, 55, 56, 57, 32, 10, 44, 47, 34, 92, 97, 98, 100, 110, 116, 64, 42, 124, 126]))) <|
    sSeq (sSet 4 (op2 gMod (op2 gIx (eVar 1) (eVar 2)) (op2 gAdd (op1 gLen (eVar 0)) (eC (.int 1))))) <|
    sSeq (sSet 5 (op2 gIx (eVar 3) (op2 gMod (op2 gIx (eVar 1) (op2 gAdd (eVar 2) (eC (.int 1)))) (op1 gLen (eVar 3))))) <|
    sSeq (sSet 6 (op2 gMod (op2 gIx (eVar 1) (op2 gAdd (eVar 2) (eC (.int 2)))) (eC (.int 7)))) <|
    sSeq (sIf (t2 gEq (eVar 6) (eC (.int 0))) (sRet (op2 gAdd (eSl (eVar 0) (oSome (eC (.int 0))) (oSome (eVar 4))) (eSl (eVar 0) (oSome (op2 gAdd (eVar 4) (eC (.int 1)))) (oNo)))) (sSkip)) <|
    sSeq (sIf (t2 gEq (eVar 6) (eC (.int 1))) (sRet (op2 gAdd (op2 gAdd (eSl (eVar 0) (oSome (eC (.int 0))) (oSome (eVar 4))) (eVar 5)) (eSl (eVar 0) (oSome (op2 gAdd (eVar 4) (eC (.int 1)))) (oNo)))) (sSkip)) <|
    sSeq (sIf (t2 gEq (eVar 6) (eC (.int 2))) (sRet (eSl (eVar 0) (oSome (eC (.int 0))) (oSome (eVar 4)))) (sSkip)) <|
    sSeq (sIf (t2 gEq (eVar 6) (eC (.int 3))) (sRet (op2 gAdd (eVar 0) (eVar 5))) (sSkip)) <|
    sSeq (sIf (t2 gEq (eVar 6) (eC (.int 4))) (sRet (op2 gAdd (eVar 5) (eVar 0))) (sSkip)) <|
    sSeq (sIf (t2 gEq (eVar 6) (eC (.int 5))) (sRet (op2 gAdd (eSl (eVar 0) (oSome (eC (.int 0))) (oSome (eVar 4))) (eSl (eVar 0) (oSome (op2 gMod (op2 gIx (eVar 1) (op2 gAdd (eVar 2) (eC (.int 1)))) (op2 gAdd (op1 gLen (eVar 0)) (eC (.int 1))))) (oNo)))) (sSkip)) <|
    sRet (op2 gAdd (op2 gAdd (eSl (eVar 0) (oSome (eC (.int 0))) (oSome (eVar 4))) (eVar 5)) (eSl (eVar 0) (oSome (eVar 4)) (oNo)))
def F__law_bent : FD := fnD 7 3 B__law_bent
def B__law_check_of : SF :=
    sSeq (sSet 1 (eC (.int 0))) <|
    sSeq (sFor (iRng (op1 gLen (eVar 0))) (gNm 2) (sSet 1 (op2 gAdd (eVar 1) (op2 gMulI (op2 gAdd (eVar 2) (eC (.int 1))) (op1 gOrd (op2 gIx (eVar 0) (eVar 2))))))) <|
    sRet (op2 gMod (eVar 1) (eC (.int 977)))
def F__law_check_of : FD := fnD 3 1 B__law_check_of
def B__law_record : SF :=
    sRet (op2 gAdd (op2 gAdd (op2 gAdd (op2 gAdd (op2 gAdd (op1 gStr (eVar 0)) (eC (.str [44]))) (op1 gStr (eCall (F__law_check_of) 1 (aCons (eVar 1) (aNil))))) (eC (.str [44]))) (eVar 1)) (eC (.str [10])))
def F__law_record : FD := fnD 2 2 B__law_record
def B__law_journal : SF :=
    sRet (mth1 gJoin (eC (.str [])) (lcF (iRng (op1 gLen (eVar 0))) [1] (gNm 1) (tYesF) (eCall (F__law_record) 2 (aCons (op2 gAdd (eVar 1) (eC (.int 1))) (aCons (op2 gIx (eVar 0) (eVar 1)) (aNil))))))
def F__law_journal : FD := fnD 2 1 B__law_journal
def B__law_records : SF :=
    sSeq (sSet 1 (disp (fun ds => (.fr, .lst ds)) (aNil))) <|
    sSeq (sFor (iVal (eSl (mth1 gSplit (eVar 0) (eC (.str [10]))) (oNo) (oSome (eNeg (eC (.int 1)))))) (gNm 2) (sSeq (sSet 3 (mth1 gSplit (eVar 2) (eC (.str [44])))) <|
    sSeq (sSet 4 (mth1 gJoin (eC (.str [44])) (eSl (eVar 3) (oSome (eC (.int 2))) (oNo)))) <|
    sSeq (sSet 5 (op1 gLen (lcF (iVal (eVar 4)) [6] (gNm 6) (tOrF (t2 gLt (eVar 6) (eC (.str [32]))) (t2 gGt (eVar 6) (eC (.str [126])))) (eVar 6)))) <|
    sSeq (sIf (tOrF (t2 gLt (op1 gLen (eVar 3)) (eC (.int 3))) (tOrF (t2 gGt (eVar 5) (eC (.int 0))) (tOrF (t2 gGt (op1 gLen (eVar 4)) (eC (.int 20010))) (t2 gNe (eCall (F__law_record) 2 (aCons (op2 gAdd (op1 gLen (eVar 1)) (eC (.int 1))) (aCons (eVar 4) (aNil)))) (op2 gAdd (eVar 2) (eC (.str [10]))))))) (sRetV 1) (sSkip)) <|
    sApp 1 (eVar 4))) <|
    sRetV 1
def F__law_records : FD := fnD 7 1 B__law_records
def B__law_drawn : SF :=
    sSeq (sRet (op1 (gRepl [10] [126]) (eCall (F__law_signs) 2 (aCons (eVar 0) (aCons (eVar 1) (aNil)))))) <|
    sSkip
def F__law_drawn : FD := fnD 2 2 B__law_drawn
def B__law_spoilt_rows : SF :=
    sSeq (sSet 2 (eCall (F__law_journal) 1 (aCons (eVar 0) (aNil)))) <|
    sSeq (sFor (iRng (op1 gLen (eVar 0))) (gNm 3) (sSeq (sSet 4 (op2 gIx (eVar 0) (eVar 3))) <|
    sIf (t2 gGt (op1 gLen (eVar 4)) (eC (.int 0))) (sSeq (sSet 5 (op2 gMod (op2 gIx (eVar 1) (eVar 3)) (op1 gLen (eVar 4)))) <|
    sSeq (sSet 6 (eCall (F__law_journal) 1 (aCons (eSl (eVar 0) (oSome (eC (.int 0))) (oSome (eVar 3))) (aNil)))) <|
    sSeq (sSet 7 (eCall (F__law_record) 2 (aCons (op2 gAdd (eVar 3) (eC (.int 1))) (aCons (eVar 4) (aNil))))) <|
    sSeq (sSet 8 (eSl (eVar 2) (oSome (op2 gAdd (op1 gLen (eVar 6)) (op1 gLen (eVar 7)))) (oNo))) <|
    sSeq (sSet 9 (eSl (eVar 7) (oSome (eC (.int 0))) (oSome (op2 gSub (op2 gSub (op1 gLen (eVar 7)) (eC (.int 1))) (op1 gLen (eVar 4)))))) <|
    sSeq (sFor (iVal (op2 gAdd (eCall (F__law_drawn) 2 (aCons (op2 gIx (eVar 1) (op2 gAdd (eVar 3) (eC (.int 8)))) (aCons (eC (.int 3)) (aNil)))) (eC (.str [32, 126, 44])))) (gNm 10) (sIf (tAndF (t2 gNe (eVar 10) (op2 gIx (eVar 4) (eVar 5))) (tNotF (tVal (eCall (F__law_same 3) 2 (aCons (eCall (F_payloads_in) 1 (aCons (op2 gAdd (op2 gAdd (op2 gAdd (op2 gAdd (op2 gAdd (op2 gAdd (eVar 6) (eVar 9)) (eSl (eVar 4) (oSome (eC (.int 0))) (oSome (eVar 5)))) (eVar 10)) (eSl (eVar 4) (oSome (op2 gAdd (eVar 5) (eC (.int 1)))) (oNo))) (eC (.str [10]))) (eVar 8)) (aNil))) (aCons (eSl (eVar 0) (oSome (eC (.int 0))) (oSome (eVar 3))) (aNil))))))) (sRet (eC (.bl false))) (sSkip))) <|
    sIf (tAndF (t2 gLt (op2 gAdd (eVar 5) (eC (.int 1))) (op1 gLen (eVar 4))) (t2 gNe (op2 gIx (eVar 4) (eVar 5)) (op2 gIx (eVar 4) (op2 gAdd (eVar 5) (eC (.int 1)))))) (sSeq (sSet 11 (op2 gAdd (op2 gAdd (op2 gAdd (eSl (eVar 4) (oSome (eC (.int 0))) (oSome (eVar 5))) (op2 gIx (eVar 4) (op2 gAdd (eVar 5) (eC (.int 1))))) (op2 gIx (eVar 4) (eVar 5))) (eSl (eVar 4) (oSome (op2 gAdd (eVar 5) (eC (.int 2)))) (oNo)))) <|
    sIf (tNotF (tVal (eCall (F__law_same 3) 2 (aCons (eCall (F_payloads_in) 1 (aCons (op2 gAdd (op2 gAdd (op2 gAdd (op2 gAdd (eVar 6) (eVar 9)) (eVar 11)) (eC (.str [10]))) (eVar 8)) (aNil))) (aCons (eSl (eVar 0) (oSome (eC (.int 0))) (oSome (eVar 3))) (aNil)))))) (sRet (eC (.bl false))) (sSkip)) (sSkip)) (sSkip))) <|
    sRet (eC (.bl true))
def F__law_spoilt_rows : FD := fnD 12 2 B__law_spoilt_rows
def B__law_texts : SF :=
    sSeq (sSet 2 (eCall (F__law_journal) 1 (aCons (eVar 0) (aNil)))) <|
    sSeq (sSet 3 (op2 gMod (op2 gIx (eVar 1) (eC (.int 0))) (op2 gAdd (op1 gLen (eVar 0)) (eC (.int 1))))) <|
    sSeq (sSet 4 (eCall (F__law_journal) 1 (aCons (eSl (eVar 0) (oSome (eC (.int 0))) (oSome (eVar 3))) (aNil)))) <|
    sSeq (sSet 5 (lcF (iVal (eSl (mth1 gSplit (eVar 2) (eC (.str [10]))) (oNo) (oSome (eNeg (eC (.int 1)))))) [6] (gNm 6) (tYesF) (op2 gAdd (eVar 6) (eC (.str [10]))))) <|
    sSeq (sSet 7 (disp (fun ds => (.fr, .lst ds)) (aCons (eVar 2) (aCons (eSl (eVar 2) (oSome (eC (.int 0))) (oSome (op2 gMod (op2 gIx (eVar 1) (eC (.int 1))) (op2 gAdd (op1 gLen (eVar 2)) (eC (.int 1)))))) (aCons (op2 gAdd (eVar 4) (eVar 2)) (aCons (op2 gAdd (eVar 2) (eC (.str [10]))) (aCons (eC (.str [])) (aCons (eSl (eVar 4) (oSome (eC (.int 0))) (oSome (op2 gMax2 (eC (.int 0)) (op2 gSub (op1 gLen (eVar 4)) (eC (.int 1)))))) (aCons (mth1 gJoin (eC (.str [])) (eRev (eVar 5))) (aCons (mth1 gJoin (eC (.str [])) (op2 gAdd (eSl (eVar 5) (oSome (eC (.int 0))) (oSome (eVar 3))) (eSl (eVar 5) (oSome (op2 gAdd (eVar 3) (eC (.int 1)))) (oNo)))) (aNil))))))))))) <|
    sSeq (sSet 7 (op2 gAdd (eVar 7) (disp (fun ds => (.fr, .lst ds)) (aCons (op2 gAdd (op2 gAdd (eVar 4) (eC (.str [48]))) (eSl (eVar 2) (oSome (op1 gLen (eVar 4))) (oNo))) (aCons (op2 gAdd (op2 gAdd (eVar 4) (eC (.str [32]))) (eSl (eVar 2) (oSome (op1 gLen (eVar 4))) (oNo))) (aCons (op2 gAdd (op2 gAdd (eVar 4) (op1 gStr (op2 gAdd (eVar 3) (eC (.int 1))))) (eC (.str [44, 48, 44, 10]))) (aCons (eC (.str [49, 44, 48, 44, 10])) (aCons (eC (.str [49, 44, 48, 10])) (aCons (eC (.str [49, 44, 57, 55, 44, 97, 10])) (aCons (eC (.str [49, 44, 48, 57, 55, 44, 97, 10])) (aCons (eC (.str [49, 44, 57, 56, 44, 97, 10])) (aCons (eC (.str [48, 49, 44, 57, 55, 44, 97, 10])) (aNil))))))))))))) <|
    sSeq (sSet 7 (op2 gAdd (eVar 7) (disp (fun ds => (.fr, .lst ds)) (aCons (eC (.str [50, 44, 57, 55, 44, 97, 10])) (aCons (eC (.str [49, 44, 50, 57, 51, 44, 97, 98, 10])) (aCons (eC (.str [49, 44, 57, 55, 44, 97])) (aCons (eC (.str [49, 44, 57, 55, 44, 44, 97, 10])) (aCons (eC (.str [44, 44, 10])) (aNil))))))))) <|
    sSeq (sSet 7 (op2 gAdd (eVar 7) (disp (fun ds => (.fr, .lst ds)) (aCons (mth1 gJoin (eC (.str [])) (op2 gAdd (op2 gAdd (eSl (eVar 5) (oSome (eC (.int 0))) (oSome (eVar 3))) (eSl (eVar 5) (oSome (eVar 3)) (oSome (op2 gAdd (eVar 3) (eC (.int 1)))))) (eSl (eVar 5) (oSome (eVar 3)) (oNo)))) (aCons (mth1 gJoin (eC (.str [])) (op2 gAdd (op2 gAdd (op2 gAdd (eSl (eVar 5) (oSome (eC (.int 0))) (oSome (eVar 3))) (eSl (eVar 5) (oSome (op2 gAdd (eVar 3) (eC (.int 1)))) (oSome (op2 gAdd (eVar 3) (eC (.int 2)))))) (eSl (eVar 5) (oSome (eVar 3)) (oSome (op2 gAdd (eVar 3) (eC (.int 1)))))) (eSl (eVar 5) (oSome (op2 gAdd (eVar 3) (eC (.int 2)))) (oNo)))) (aNil)))))) <|
    sSeq (sApp 7 (op2 gAdd (op2 gAdd (eVar 4) (eCall (F__law_record) 2 (aCons (op2 gAdd (eVar 3) (eC (.int 1))) (aCons (op2 gMulS (eC (.str [97])) (op2 gAdd (eC (.int 20009)) (op2 gMod (op2 gIx (eVar 1) (eC (.int 3))) (eC (.int 3))))) (aNil))))) (eCall (F__law_record) 2 (aCons (op2 gAdd (eVar 3) (eC (.int 2))) (aCons (eC (.str [98])) (aNil)))))) <|
    sRet (op2 gAdd (eVar 7) (disp (fun ds => (.fr, .lst ds)) (aCons (eCall (F__law_bent) 3 (aCons (eVar 2) (aCons (eVar 1) (aCons (eC (.int 2)) (aNil))))) (aCons (eCall (F__law_bent) 3 (aCons (eVar 2) (aCons (eVar 1) (aCons (eC (.int 5)) (aNil))))) (aCons (eCall (F__law_bent) 3 (aCons (eVar 2) (aCons (eVar 1) (aCons (eC (.int 8)) (aNil))))) (aNil))))))
def F__law_texts : FD := fnD 8 2 B__law_texts
def B_law : SF :=
    sSeq (sSet 1 (eCall (F__law_numbers) 3 (aCons (eCall (F__law_cell) 2 (aCons (eVar 0) (aCons (eC (.int 0)) (aNil)))) (aCons (eC (.int 40)) (aCons (eC (.int 5040)) (aNil)))))) <|
    sSeq (sSet 2 (lcF (iRng (op2 gAdd (eC (.int 1)) (op2 gMod (op2 gIx (eVar 1) (eC (.int 0))) (eC (.int 8))))) [3] (gNm 3) (tYesF) (eCall (F__law_drawn) 2 (aCons (op2 gAdd (op2 gMulI (op2 gIx (eVar 1) (eVar 3)) (eC (.int 7919))) (eVar 3)) (aCons (op2 gIx (disp (fun ds => (.fr, .lst ds)) (aCons (op2 gMod (op2 gIx (eVar 1) (op2 gAdd (eC (.int 8)) (eVar 3))) (eC (.int 12))) (aCons (op2 gMod (op2 gIx (eVar 1) (op2 gAdd (eC (.int 8)) (eVar 3))) (eC (.int 90))) (aCons (eC (.int 0)) (aNil))))) (op2 gMod (op2 gIx (eVar 1) (eVar 3)) (eC (.int 3)))) (aNil)))))) <|
    sSeq (sIf (t2 gEq (op2 gMod (op2 gIx (eVar 1) (eC (.int 20))) (eC (.int 2))) (eC (.int 0))) (sSub 2 (eC (.int 0)) (op2 gAdd (op2 gAdd (eC (.str [44, 32, 97, 44, 98])) (op2 gIx (eVar 2) (eC (.int 0)))) (eC (.str [32, 44])))) (sSkip)) <|
    sSeq (sSet 4 (op1 gList (eVar 2))) <|
    sSeq (sFor (iVal (op2 gAdd (eVar 2) (disp (fun ds => (.fr, .lst ds)) (aCons (eC (.str [97, 98])) (aCons (eC (.str [97])) (aCons (eC (.str [])) (aNil))))))) (gNm 5) (sIf (tNotF (tVal (eCall (F__law_same 3) 2 (aCons (eCall (F_check_of) 1 (aCons (eVar 5) (aNil))) (aCons (eCall (F__law_check_of) 1 (aCons (eVar 5) (aNil))) (aNil)))))) (sRet (eC (.bl false))) (sSkip))) <|
    sSeq (sIf (tOrF (tNotF (tVal (eCall (F__law_same 3) 2 (aCons (disp (fun ds => (.fr, .lst ds)) (aCons (eCall (F_journal_of) 1 (aCons (op1 gList (eVar 2)) (aNil))) (aCons (eCall (F_journal_of) 1 (aCons (disp (fun ds => (.fr, .lst ds)) (aNil)) (aNil))) (aNil)))) (aCons (disp (fun ds => (.fr, .lst ds)) (aCons (eCall (F__law_journal) 1 (aCons (eVar 2) (aNil))) (aCons (eC (.str [])) (aNil)))) (aNil)))))) (tOrF (t2 gNe (eVar 2) (eVar 4)) (tNotF (tVal (eCall (F__law_spoilt_rows) 2 (aCons (eVar 2) (aCons (eVar 1) (aNil)))))))) (sRet (eC (.bl false))) (sSkip)) <|
    sSeq (sFor (iVal (eCall (F__law_texts) 2 (aCons (eVar 2) (aCons (eSl (eVar 1) (oSome (eC (.int 21))) (oNo)) (aNil))))) (gNm 6) (sFor (iRng (eC (.int 2))) (gNm 7) (sSeq (sSet 8 (eCall (F_payloads_in) 1 (aCons (eVar 6) (aNil)))) <|
    sSeq (sIf (tNotF (tVal (eCall (F__law_same 3) 2 (aCons (eVar 8) (aCons (eCall (F__law_records) 1 (aCons (eVar 6) (aNil))) (aNil)))))) (sRet (eC (.bl false))) (sSkip)) <|
    sApp 8 (eC (.str [99, 104, 97, 110, 103, 101, 100]))))) <|
    sRet (op2 gEq (eCall (F_check_of) 1 (aCons (eC (.str [97, 98])) (aNil))) (eC (.int 293)))
def F_law : FD := fnD 9 1 B_law
/-! what the top has written -/
structure Top (K : PySem.W.Frag) (mg : Str → Option Value) where
  a_check_of : Addr
  d_check_of : FuncData
  f_check_of : Fun K "check_of" "check_of" st_check_of a_check_of d_check_of
  g_check_of : mg "check_of" = some (.ref a_check_of)
  b_check_of : Binds K d_check_of ["string"] []
  a_record : Addr
  d_record : FuncData
  f_record : Fun K "record" "record" st_record a_record d_record
  g_record : mg "record" = some (.ref a_record)
  b_record : Binds K d_record ["number", "payload"] []
  a_journal_of : Addr
  d_journal_of : FuncData
  f_journal_of : Fun K "journal_of" "journal_of" st_journal_of a_journal_of d_journal_of
  g_journal_of : mg "journal_of" = some (.ref a_journal_of)
  b_journal_of : Binds K d_journal_of ["payloads"] []
  a_payload_in : Addr
  d_payload_in : FuncData
  f_payload_in : Fun K "payload_in" "payload_in" st_payload_in a_payload_in d_payload_in
  g_payload_in : mg "payload_in" = some (.ref a_payload_in)
  b_payload_in : Binds K d_payload_in ["number", "row"] []
  a_payloads_in : Addr
  d_payloads_in : FuncData
  f_payloads_in : Fun K "payloads_in" "payloads_in" st_payloads_in a_payloads_in d_payloads_in
  g_payloads_in : mg "payloads_in" = some (.ref a_payloads_in)
  b_payloads_in : Binds K d_payloads_in ["string"] []
  a__law_cell : Addr
  d__law_cell : FuncData
  f__law_cell : Fun K "_law_cell" "_law_cell" st__law_cell a__law_cell d__law_cell
  g__law_cell : mg "_law_cell" = some (.ref a__law_cell)
  b__law_cell : Binds K d__law_cell ["script", "k"] []
  a__law_numbers : Addr
  d__law_numbers : FuncData
  f__law_numbers : Fun K "_law_numbers" "_law_numbers" st__law_numbers a__law_numbers d__law_numbers
  g__law_numbers : mg "_law_numbers" = some (.ref a__law_numbers)
  b__law_numbers : Binds K d__law_numbers ["cell", "count", "limit"] []
  a__law_same : Addr
  d__law_same : FuncData
  f__law_same : Fun K "_law_same" "_law_same" st__law_same a__law_same d__law_same
  g__law_same : mg "_law_same" = some (.ref a__law_same)
  b__law_same : Binds K d__law_same ["told", "due"] []
  a__law_signs : Addr
  d__law_signs : FuncData
  f__law_signs : Fun K "_law_signs" "_law_signs" st__law_signs a__law_signs d__law_signs
  g__law_signs : mg "_law_signs" = some (.ref a__law_signs)
  b__law_signs : Binds K d__law_signs ["draw", "count"] []
  a__law_bent : Addr
  d__law_bent : FuncData
  f__law_bent : Fun K "_law_bent" "_law_bent" st__law_bent a__law_bent d__law_bent
  g__law_bent : mg "_law_bent" = some (.ref a__law_bent)
  b__law_bent : Binds K d__law_bent ["text", "draws", "at"] []
  a__law_check_of : Addr
  d__law_check_of : FuncData
  f__law_check_of : Fun K "_law_check_of" "_law_check_of" st__law_check_of a__law_check_of d__law_check_of
  g__law_check_of : mg "_law_check_of" = some (.ref a__law_check_of)
  b__law_check_of : Binds K d__law_check_of ["text"] []
  a__law_record : Addr
  d__law_record : FuncData
  f__law_record : Fun K "_law_record" "_law_record" st__law_record a__law_record d__law_record
  g__law_record : mg "_law_record" = some (.ref a__law_record)
  b__law_record : Binds K d__law_record ["number", "payload"] []
  a__law_journal : Addr
  d__law_journal : FuncData
  f__law_journal : Fun K "_law_journal" "_law_journal" st__law_journal a__law_journal d__law_journal
  g__law_journal : mg "_law_journal" = some (.ref a__law_journal)
  b__law_journal : Binds K d__law_journal ["payloads"] []
  a__law_records : Addr
  d__law_records : FuncData
  f__law_records : Fun K "_law_records" "_law_records" st__law_records a__law_records d__law_records
  g__law_records : mg "_law_records" = some (.ref a__law_records)
  b__law_records : Binds K d__law_records ["text"] []
  a__law_drawn : Addr
  d__law_drawn : FuncData
  f__law_drawn : Fun K "_law_drawn" "_law_drawn" st__law_drawn a__law_drawn d__law_drawn
  g__law_drawn : mg "_law_drawn" = some (.ref a__law_drawn)
  b__law_drawn : Binds K d__law_drawn ["draw", "count"] []
  a__law_spoilt_rows : Addr
  d__law_spoilt_rows : FuncData
  f__law_spoilt_rows : Fun K "_law_spoilt_rows" "_law_spoilt_rows" st__law_spoilt_rows a__law_spoilt_rows d__law_spoilt_rows
  g__law_spoilt_rows : mg "_law_spoilt_rows" = some (.ref a__law_spoilt_rows)
  b__law_spoilt_rows : Binds K d__law_spoilt_rows ["lines", "draws"] []
  a__law_texts : Addr
  d__law_texts : FuncData
  f__law_texts : Fun K "_law_texts" "_law_texts" st__law_texts a__law_texts d__law_texts
  g__law_texts : mg "_law_texts" = some (.ref a__law_texts)
  b__law_texts : Binds K d__law_texts ["lines", "draws"] []
  a_law : Addr
  d_law : FuncData
  f_law : Fun K "law" "law" st_law a_law d_law
  g_law : mg "law" = some (.ref a_law)
  b_law : Binds K d_law ["script"] []
  z_enumerate : mg "enumerate" = none
  z_ord : mg "ord" = none
  z_sum : mg "sum" = none
  z_len : mg "len" = none
  z_all : mg "all" = none
  z_int : mg "int" = none
  z_range : mg "range" = none
  z_isinstance : mg "isinstance" = none
  z_list : mg "list" = none
  z_tuple : mg "tuple" = none
  z_bool : mg "bool" = none
  z_str : mg "str" = none
  z_max : mg "max" = none
  c_MODULUS : ∃ t, mg "MODULUS" = some (.int 977 t)
  c_MOST_SIGNS : ∃ t, mg "MOST_SIGNS" = some (.int 20010 t)
section
variable {P : Program} {w : World} {K : PySem.W.Frag} {mg : Str → Option Value} {base : Heap}
theorem ok_check_of (T : Top K mg) : FnOk P w K mg base (L2.CX P w) (0 + 1) T.a_check_of T.d_check_of ["string"] (spD K mg 1 F_check_of) :=
  fn_den T.f_check_of sc_check_of rfl fun cdv A outer s H E hr =>
    dss_one (ds_ret (de_mod (de_sum rfl (by rfl) T.z_sum (de_lc (own := [("k", 1), ("sign", 2)]) rfl sc_check_of.nd (blkOk_by (by show blkC N_check_of (defScope st_check_of) _ _ = true; decide +kernel)) (by decide) (di_enum (by rfl) T.z_enumerate (de_var 0 (pv 0))) (fun _ _ _ _ _ => dg_tup rfl (dgs_cons (dg_name 1 sc_check_of.nd rfl (.inl rfl) (.inr rfl)) (dgs_cons (dg_name 2 sc_check_of.nd rfl (.inl rfl) (.inr rfl)) (dgs_nil)))) (fun _ _ _ _ _ => dts_nil) (fun _ _ _ _ _ => de_mulI (de_add (de_var 1 (pv 1)) (de_int)) (de_ord (by rfl) T.z_ord (de_var 2 (pv 2)))))) (de_gint (by rfl) T.c_MODULUS.choose_spec)))
theorem ok_record (T : Top K mg) : FnOk P w K mg base (L2.CX P w) (1 + 1) T.a_record T.d_record ["number", "payload"] (spD K mg 2 F_record) :=
  fn_den T.f_record sc_record rfl fun cdv A outer s H E hr =>
    dss_one (ds_ret (de_fs (.cons (de_fmt (de_var 0 (pv 0))) (.cons (de_str [44]) (.cons (de_fmt (de_call ((ok_check_of T).mono (by decide)) hr (by rfl) T.g_check_of T.f_check_of.kp T.b_check_of (takes_of rfl rfl rfl rfl) (da_cons (de_var 1 (pv 1)) (da_nil)))) (.cons (de_str [44]) (.cons (de_fmt (de_var 1 (pv 1))) (.cons (de_str [10]) (.nil)))))))))
theorem ok_journal_of (T : Top K mg) : FnOk P w K mg base (L2.CX P w) (2 + 1) T.a_journal_of T.d_journal_of ["payloads"] (spD K mg 1 F_journal_of) :=
  fn_den T.f_journal_of sc_journal_of rfl fun cdv A outer s H E hr =>
    dss_one (ds_ret (de_join (de_str []) (de_lc (own := [("k", 1), ("payload", 2)]) rfl sc_journal_of.nd (blkOk_by (by show blkC N_journal_of (defScope st_journal_of) _ _ = true; decide +kernel)) (by decide) (di_enum (by rfl) T.z_enumerate (de_var 0 (pv 0))) (fun _ _ _ _ _ => dg_tup rfl (dgs_cons (dg_name 1 sc_journal_of.nd rfl (.inl rfl) (.inr rfl)) (dgs_cons (dg_name 2 sc_journal_of.nd rfl (.inl rfl) (.inr rfl)) (dgs_nil)))) (fun _ _ _ _ _ => dts_nil) (fun _ _ _ _ _ => de_call ((ok_record T).mono (by decide)) hr (by rfl) T.g_record T.f_record.kp T.b_record takes0 (da_cons (de_add (de_var 1 (pv 1)) (de_int)) (da_cons (de_var 2 (pv 2)) (da_nil)))))))
theorem ok_payload_in (T : Top K mg) : FnOk P w K mg base (L2.CX P w) (2 + 1) T.a_payload_in T.d_payload_in ["number", "row"] (spD K mg 2 F_payload_in) :=
  fn_den T.f_payload_in sc_payload_in rfl fun cdv A outer s H E hr =>
    dss_cons (ds_set 2 sc_payload_in.nd rfl (.inl rfl) (de_ix (de_part (de_ix (de_part (de_var 1 (pv 1)) (de_str [44])) (de_int)) (de_str [44])) (de_int))) <|
    dss_cons (ds_if (dw_pt (dw_or (dt_gt (de_len (by rfl) T.z_len (de_var 2 (pv 2))) (de_gint (by rfl) T.c_MOST_SIGNS.choose_spec)) (dw_or1 (dt_not (dt_truth (de_all rfl (by rfl) T.z_all (de_lc (own := [("sign", 3)]) rfl sc_payload_in.nd (blkOk_by (by show blkC N_payload_in (defScope st_payload_in) _ _ = true; decide +kernel)) (by decide) (di_val (de_var 2 (pv 2))) (fun _ _ _ _ _ => dg_name 3 sc_payload_in.nd rfl (.inl rfl) (.inr rfl)) (fun _ _ _ _ _ => dts_nil) (fun _ _ _ _ _ => de_lele (de_str [32]) (de_var 3 (pv 3)) (de_str [126]))))))))) (dss_one (ds_ret (de_non))) (dss_nil)) <|
    dss_one (ds_ret (de_if (dt_eq (un_of hr) (de_call ((ok_record T).mono (by decide)) hr (by rfl) T.g_record T.f_record.kp T.b_record (takes_of rfl rfl rfl rfl) (da_cons (de_var 0 (pv 0)) (da_cons (de_var 2 (pv 2)) (da_nil)))) (de_add (de_var 1 (pv 1)) (de_str [10]))) (de_var 2 (pv 2)) (de_non)))
theorem ok_payloads_in (T : Top K mg) : FnOk P w K mg base (L2.CX P w) (3 + 1) T.a_payloads_in T.d_payloads_in ["string"] (spD K mg 1 F_payloads_in) :=
  fn_den T.f_payloads_in sc_payloads_in rfl fun cdv A outer s H E hr =>
    dss_cons (ds_set 1 sc_payloads_in.nd rfl (.inl rfl) (de_lst (da_nil))) <|
    dss_cons (ds_for (passes_of rfl) rfl (di_val (de_slice (de_split (de_var 0 (pv 0)) (de_str [10])) (do_none) (do_some (de_neg (de_int))))) (dg_name 2 sc_payloads_in.nd rfl (.inl rfl) (.inl rfl)) (dss_cons (ds_set 3 sc_payloads_in.nd rfl (.inl rfl) (de_call ((ok_payload_in T).mono (by decide)) hr (by rfl) T.g_payload_in T.f_payload_in.kp T.b_payload_in (takes_of rfl rfl rfl rfl) (da_cons (de_add (de_len (by rfl) T.z_len (de_var 1 (pv 1))) (de_int)) (da_cons (de_var 2 (pv 2)) (da_nil))))) <|
    dss_cons (ds_if (dt_isN (de_var 3 (pv 3))) (dss_one (ds_retV 1 (pv 1))) (dss_nil)) <|
    dss_one (ds_app 1 (pv 1) (de_var 3 (pv 3))))) <|
    dss_one (ds_retV 1 (pv 1))
theorem ok__law_cell (T : Top K mg) : FnOk P w K mg base (L2.CX P w) (0 + 1) T.a__law_cell T.d__law_cell ["script", "k"] (spD K mg 2 F__law_cell) :=
  fn_den T.f__law_cell sc__law_cell rfl fun cdv A outer s H E hr =>
    dss_cons (ds_if (dt_lt (de_var 1 (pv 1)) (de_len (by rfl) T.z_len (de_var 0 (pv 0)))) (dss_one (ds_ret (de_intc (by rfl) T.z_int (de_ix (de_var 0 (pv 0)) (de_var 1 (pv 1)))))) (dss_nil)) <|
    dss_one (ds_ret (de_int))
theorem ok__law_numbers (T : Top K mg) : FnOk P w K mg base (L2.CX P w) (0 + 1) T.a__law_numbers T.d__law_numbers ["cell", "count", "limit"] (spD K mg 3 F__law_numbers) :=
  fn_den T.f__law_numbers sc__law_numbers rfl fun cdv A outer s H E hr =>
    dss_cons (ds_set 3 sc__law_numbers.nd rfl (.inl rfl) (de_lst (da_nil))) <|
    dss_cons (ds_if (dt_ge (de_var 0 (pv 0)) (de_pow (de_int) (de_int))) (dss_cons (ds_for (passes_of rfl) rfl (di_rng (by rfl) T.z_range (de_var 1 (pv 1))) (dg_name 4 sc__law_numbers.nd rfl (.inl rfl) (.inl rfl)) (dss_cons (ds_app 3 (pv 3) (de_mod (de_intc (by rfl) T.z_int (de_var 0 (pv 0))) (de_var 2 (pv 2)))) <|
    dss_one (ds_set 0 sc__law_numbers.nd rfl (.inl rfl) (de_fdiv (de_intc (by rfl) T.z_int (de_var 0 (pv 0))) (de_var 2 (pv 2)))))) <|
    dss_one (ds_retV 3 (pv 3))) (dss_nil)) <|
    dss_cons (ds_for (passes_of rfl) rfl (di_rng (by rfl) T.z_range (de_var 1 (pv 1))) (dg_name 4 sc__law_numbers.nd rfl (.inl rfl) (.inl rfl)) (dss_cons (ds_set 5 sc__law_numbers.nd rfl (.inl rfl) (de_mod (de_intc (by rfl) T.z_int (de_add (de_add (de_mulI (de_var 0 (pv 0)) (de_int)) (de_mulI (de_var 4 (pv 4)) (de_int))) (de_int))) (de_int))) <|
    dss_cons (ds_set 5 sc__law_numbers.nd rfl (.inl rfl) (de_mod (de_intc (by rfl) T.z_int (de_add (de_add (de_add (de_mulI (de_var 5 (pv 5)) (de_var 5 (pv 5))) (de_mulI (de_var 5 (pv 5)) (de_int))) (de_mulI (de_var 4 (pv 4)) (de_int))) (de_int))) (de_int))) <|
    dss_one (ds_app 3 (pv 3) (de_mod (de_intc (by rfl) T.z_int (de_fdiv (de_var 5 (pv 5)) (de_int))) (de_var 2 (pv 2)))))) <|
    dss_one (ds_retV 3 (pv 3))
theorem ok__law_same (T : Top K mg) : ∀ k : Nat, FnOk P w K mg base (L2.CX P w) (k + 1) T.a__law_same T.d__law_same ["told", "due"] (spD K mg 2 (F__law_same k))
  | 0 => fn_bad rfl
  | k + 1 => by
    have HG := ok__law_same T k
    exact fn_den T.f__law_same sc__law_same rfl fun cdv A outer s H E hr =>
    dss_cons (ds_if (dt_truth (de_isi "list" k_list (by rfl) T.z_isinstance bt_isi (de_var 1 (pv 1)) (by rfl) T.z_list bt_list)) (dss_one (ds_if (dw_pt (dw_or (dt_not (dt_truth (de_isi "list" k_list (by rfl) T.z_isinstance bt_isi (de_var 0 (pv 0)) (by rfl) T.z_list bt_list))) (dw_or1 (dt_ne (un_of hr) (de_len (by rfl) T.z_len (de_var 0 (pv 0))) (de_len (by rfl) T.z_len (de_var 1 (pv 1))))))) (dss_one (ds_ret (de_bl))) (dss_nil))) (dss_one (ds_if (dt_truth (de_isi "tuple" k_tuple (by rfl) T.z_isinstance bt_isi (de_var 1 (pv 1)) (by rfl) T.z_tuple bt_tuple)) (dss_one (ds_if (dw_pt (dw_or (dt_not (dt_truth (de_isi "tuple" k_tuple (by rfl) T.z_isinstance bt_isi (de_var 0 (pv 0)) (by rfl) T.z_tuple bt_tuple))) (dw_or1 (dt_ne (un_of hr) (de_len (by rfl) T.z_len (de_var 0 (pv 0))) (de_len (by rfl) T.z_len (de_var 1 (pv 1))))))) (dss_one (ds_ret (de_bl))) (dss_nil))) (dss_one (ds_if (dt_isN (de_var 1 (pv 1))) (dss_one (ds_ret (de_isN (de_var 0 (pv 0))))) (dss_one (ds_if (dt_truth (de_isi "bool" k_bool (by rfl) T.z_isinstance bt_isi (de_var 1 (pv 1)) (by rfl) T.z_bool bt_bool)) (dss_one (ds_ret (de_and (de_isi "bool" k_bool (by rfl) T.z_isinstance bt_isi (de_var 0 (pv 0)) (by rfl) T.z_bool bt_bool) (de_one (de_eq (un_of hr) (de_var 0 (pv 0)) (de_var 1 (pv 1))))))) (dss_one (ds_if (dt_truth (de_isi "int" k_int (by rfl) T.z_isinstance bt_isi (de_var 1 (pv 1)) (by rfl) T.z_int bt_int)) (dss_one (ds_ret (de_and (de_isi "int" k_int (by rfl) T.z_isinstance bt_isi (de_var 0 (pv 0)) (by rfl) T.z_int bt_int) (de_and (de_not (de_isi "bool" k_bool (by rfl) T.z_isinstance bt_isi (de_var 0 (pv 0)) (by rfl) T.z_bool bt_bool)) (de_one (de_eq (un_of hr) (de_var 0 (pv 0)) (de_var 1 (pv 1)))))))) (dss_one (ds_ret (de_and (de_isi "str" k_str (by rfl) T.z_isinstance bt_isi (de_var 0 (pv 0)) (by rfl) T.z_str bt_str) (de_one (de_eq (un_of hr) (de_var 0 (pv 0)) (de_var 1 (pv 1)))))))))))))))) <|
    dss_cons (ds_for (passes_of rfl) rfl (di_rng (by rfl) T.z_range (de_len (by rfl) T.z_len (de_var 1 (pv 1)))) (dg_name 2 sc__law_same.nd rfl (.inl rfl) (.inl rfl)) (dss_one (ds_if (dt_not (dt_truth (de_call (HG) hr (by rfl) T.g__law_same T.f__law_same.kp T.b__law_same (takes_of rfl rfl rfl rfl) (da_cons (de_ix (de_var 0 (pv 0)) (de_var 2 (pv 2))) (da_cons (de_ix (de_var 1 (pv 1)) (de_var 2 (pv 2))) (da_nil)))))) (dss_one (ds_ret (de_bl))) (dss_nil)))) <|
    dss_one (ds_ret (de_bl))
theorem ok__law_signs (T : Top K mg) : FnOk P w K mg base (L2.CX P w) (1 + 1) T.a__law_signs T.d__law_signs ["draw", "count"] (spD K mg 2 F__law_signs) :=
  fn_den T.f__law_signs sc__law_signs rfl fun cdv A outer s H E hr =>
    dss_cons (ds_set 2 sc__law_signs.nd rfl (.inr rfl) (de_str [32, 33, 34, 35, 36, 38, 39, 40, 41, 42, 43, 44, 45, 46, 47, 48, 49, 50, 51, 52, 53, 54, 55, 56, 57, 58, 59, 60, 61, 62, 63, 64, 65, 66, 67, 88, 89, 90, 91, 92, 93, 94, 95, 97, 98, 99, 100, 101, 102, 103, 104, 105, 106, 107, 108, 109, 110, 111, 112, 113, 114, 115, 116, 117, 118, 119, 120, 121, 122, 123, 124, 125, 126, 10])) <|
    dss_one (ds_ret (de_join (de_str []) (de_lc (own := [("number", 3)]) rfl sc__law_signs.nd (blkOk_by (by show blkC N__law_signs (defScope st__law_signs) _ _ = true; decide +kernel)) (by decide) (di_val (de_call ((ok__law_numbers T).mono (by decide)) hr (by rfl) T.g__law_numbers T.f__law_numbers.kp T.b__law_numbers (takes_of rfl rfl rfl rfl) (da_cons (de_var 0 (pv 0)) (da_cons (de_var 1 (pv 1)) (da_cons (de_len (by rfl) T.z_len (de_var 2 (pv 2))) (da_nil)))))) (fun _ _ _ _ _ => dg_name 3 sc__law_signs.nd rfl (.inl rfl) (.inr rfl)) (fun _ _ _ _ _ => dts_nil) (fun _ _ _ _ _ => de_ix (de_var 2 (pv 2)) (de_var 3 (pv 3))))))
theorem ok__law_bent (T : Top K mg) : FnOk P w K mg base (L2.CX P w) (0 + 1) T.a__law_bent T.d__law_bent ["text", "draws", "at"] (spD K mg 3 F__law_bent) :=
  fn_den T.f__law_bent sc__law_bent rfl fun cdv A outer s H E hr =>
    dss_cons (ds_set 3 sc__law_bent.nd rfl (.inl rfl) (de_str [48, 49, 50, 51, 52, 53, 54, 55, 56, 57, 32, 10, 44, 47, 34, 92, 97, 98, 100, 110, 116, 64, 42, 124, 126])) <|
    dss_cons (ds_set 4 sc__law_bent.nd rfl (.inl rfl) (de_mod (de_ix (de_var 1 (pv 1)) (de_var 2 (pv 2))) (de_add (de_len (by rfl) T.z_len (de_var 0 (pv 0))) (de_int)))) <|
    dss_cons (ds_set 5 sc__law_bent.nd rfl (.inl rfl) (de_ix (de_var 3 (pv 3)) (de_mod (de_ix (de_var 1 (pv 1)) (de_add (de_var 2 (pv 2)) (de_int))) (de_len (by rfl) T.z_len (de_var 3 (pv 3)))))) <|
    dss_cons (ds_set 6 sc__law_bent.nd rfl (.inl rfl) (de_mod (de_ix (de_var 1 (pv 1)) (de_add (de_var 2 (pv 2)) (de_int))) (de_int))) <|
    dss_cons (ds_if (dt_eq (un_of hr) (de_var 6 (pv 6)) (de_int)) (dss_one (ds_ret (de_add (de_slice (de_var 0 (pv 0)) (do_some (de_int)) (do_some (de_var 4 (pv 4)))) (de_slice (de_var 0 (pv 0)) (do_some (de_add (de_var 4 (pv 4)) (de_int))) (do_none))))) (dss_nil)) <|
    dss_cons (ds_if (dt_eq (un_of hr) (de_var 6 (pv 6)) (de_int)) (dss_one (ds_ret (de_add (de_add (de_slice (de_var 0 (pv 0)) (do_some (de_int)) (do_some (de_var 4 (pv 4)))) (de_var 5 (pv 5))) (de_slice (de_var 0 (pv 0)) (do_some (de_add (de_var 4 (pv 4)) (de_int))) (do_none))))) (dss_nil)) <|
    dss_cons (ds_if (dt_eq (un_of hr) (de_var 6 (pv 6)) (de_int)) (dss_one (ds_ret (de_slice (de_var 0 (pv 0)) (do_some (de_int)) (do_some (de_var 4 (pv 4)))))) (dss_nil)) <|
    dss_cons (ds_if (dt_eq (un_of hr) (de_var 6 (pv 6)) (de_int)) (dss_one (ds_ret (de_add (de_var 0 (pv 0)) (de_var 5 (pv 5))))) (dss_nil)) <|
    dss_cons (ds_if (dt_eq (un_of hr) (de_var 6 (pv 6)) (de_int)) (dss_one (ds_ret (de_add (de_var 5 (pv 5)) (de_var 0 (pv 0))))) (dss_nil)) <|
    dss_cons (ds_if (dt_eq (un_of hr) (de_var 6 (pv 6)) (de_int)) (dss_one (ds_ret (de_add (de_slice (de_var 0 (pv 0)) (do_some (de_int)) (do_some (de_var 4 (pv 4)))) (de_slice (de_var 0 (pv 0)) (do_some (de_mod (de_ix (de_var 1 (pv 1)) (de_add (de_var 2 (pv 2)) (de_int))) (de_add (de_len (by rfl) T.z_len (de_var 0 (pv 0))) (de_int)))) (do_none))))) (dss_nil)) <|
    dss_one (ds_ret (de_add (de_add (de_slice (de_var 0 (pv 0)) (do_some (de_int)) (do_some (de_var 4 (pv 4)))) (de_var 5 (pv 5))) (de_slice (de_var 0 (pv 0)) (do_some (de_var 4 (pv 4))) (do_none))))
theorem ok__law_check_of (T : Top K mg) : FnOk P w K mg base (L2.CX P w) (0 + 1) T.a__law_check_of T.d__law_check_of ["text"] (spD K mg 1 F__law_check_of) :=
  fn_den T.f__law_check_of sc__law_check_of rfl fun cdv A outer s H E hr =>
    dss_cons (ds_set 1 sc__law_check_of.nd rfl (.inl rfl) (de_int)) <|
    dss_cons (ds_for (passes_of rfl) rfl (di_rng (by rfl) T.z_range (de_len (by rfl) T.z_len (de_var 0 (pv 0)))) (dg_name 2 sc__law_check_of.nd rfl (.inl rfl) (.inl rfl)) (dss_one (ds_set 1 sc__law_check_of.nd rfl (.inl rfl) (de_add (de_var 1 (pv 1)) (de_mulI (de_add (de_var 2 (pv 2)) (de_int)) (de_ord (by rfl) T.z_ord (de_ix (de_var 0 (pv 0)) (de_var 2 (pv 2))))))))) <|
    dss_one (ds_ret (de_mod (de_var 1 (pv 1)) (de_int)))
theorem ok__law_record (T : Top K mg) : FnOk P w K mg base (L2.CX P w) (1 + 1) T.a__law_record T.d__law_record ["number", "payload"] (spD K mg 2 F__law_record) :=
  fn_den T.f__law_record sc__law_record rfl fun cdv A outer s H E hr =>
    dss_one (ds_ret (de_add (de_add (de_add (de_add (de_add (de_strc (by rfl) T.z_str (de_var 0 (pv 0))) (de_str [44])) (de_strc (by rfl) T.z_str (de_call ((ok__law_check_of T).mono (by decide)) hr (by rfl) T.g__law_check_of T.f__law_check_of.kp T.b__law_check_of (takes_of rfl rfl rfl rfl) (da_cons (de_var 1 (pv 1)) (da_nil))))) (de_str [44])) (de_var 1 (pv 1))) (de_str [10])))
theorem ok__law_journal (T : Top K mg) : FnOk P w K mg base (L2.CX P w) (2 + 1) T.a__law_journal T.d__law_journal ["payloads"] (spD K mg 1 F__law_journal) :=
  fn_den T.f__law_journal sc__law_journal rfl fun cdv A outer s H E hr =>
    dss_one (ds_ret (de_join (de_str []) (de_lc (own := [("k", 1)]) rfl sc__law_journal.nd (blkOk_by (by show blkC N__law_journal (defScope st__law_journal) _ _ = true; decide +kernel)) (by decide) (di_rng (by rfl) T.z_range (de_len (by rfl) T.z_len (de_var 0 (pv 0)))) (fun _ _ _ _ _ => dg_name 1 sc__law_journal.nd rfl (.inl rfl) (.inr rfl)) (fun _ _ _ _ _ => dts_nil) (fun _ _ _ _ _ => de_call ((ok__law_record T).mono (by decide)) hr (by rfl) T.g__law_record T.f__law_record.kp T.b__law_record takes0 (da_cons (de_add (de_var 1 (pv 1)) (de_int)) (da_cons (de_ix (de_var 0 (pv 0)) (de_var 1 (pv 1))) (da_nil)))))))
theorem ok__law_records (T : Top K mg) : FnOk P w K mg base (L2.CX P w) (2 + 1) T.a__law_records T.d__law_records ["text"] (spD K mg 1 F__law_records) :=
  fn_den T.f__law_records sc__law_records rfl fun cdv A outer s H E hr =>
    dss_cons (ds_set 1 sc__law_records.nd rfl (.inl rfl) (de_lst (da_nil))) <|
    dss_cons (ds_for (passes_of rfl) rfl (di_val (de_slice (de_split (de_var 0 (pv 0)) (de_str [10])) (do_none) (do_some (de_neg (de_int))))) (dg_name 2 sc__law_records.nd rfl (.inl rfl) (.inl rfl)) (dss_cons (ds_set 3 sc__law_records.nd rfl (.inl rfl) (de_split (de_var 2 (pv 2)) (de_str [44]))) <|
    dss_cons (ds_set 4 sc__law_records.nd rfl (.inl rfl) (de_join (de_str [44]) (de_slice (de_var 3 (pv 3)) (do_some (de_int)) (do_none)))) <|
    dss_cons (ds_set 5 sc__law_records.nd rfl (.inl rfl) (de_len (by rfl) T.z_len (de_lc (own := [("sign", 6)]) rfl sc__law_records.nd (blkOk_by (by show blkC N__law_records (defScope st__law_records) _ _ = true; decide +kernel)) (by decide) (di_val (de_var 4 (pv 4))) (fun _ _ _ _ _ => dg_name 6 sc__law_records.nd rfl (.inl rfl) (.inr rfl)) (fun _ _ _ _ _ => dts_one (dw_pt (dw_or (dt_lt (de_var 6 (pv 6)) (de_str [32])) (dw_or1 (dt_gt (de_var 6 (pv 6)) (de_str [126])))))) (fun _ _ _ _ _ => de_var 6 (pv 6))))) <|
    dss_cons (ds_if (dw_pt (dw_or (dt_lt (de_len (by rfl) T.z_len (de_var 3 (pv 3))) (de_int)) (dw_or (dt_gt (de_var 5 (pv 5)) (de_int)) (dw_or (dt_gt (de_len (by rfl) T.z_len (de_var 4 (pv 4))) (de_int)) (dw_or1 (dt_ne (un_of hr) (de_call ((ok__law_record T).mono (by decide)) hr (by rfl) T.g__law_record T.f__law_record.kp T.b__law_record (takes_of rfl rfl rfl rfl) (da_cons (de_add (de_len (by rfl) T.z_len (de_var 1 (pv 1))) (de_int)) (da_cons (de_var 4 (pv 4)) (da_nil)))) (de_add (de_var 2 (pv 2)) (de_str [10])))))))) (dss_one (ds_retV 1 (pv 1))) (dss_nil)) <|
    dss_one (ds_app 1 (pv 1) (de_var 4 (pv 4))))) <|
    dss_one (ds_retV 1 (pv 1))
theorem ok__law_drawn (T : Top K mg) : FnOk P w K mg base (L2.CX P w) (2 + 1) T.a__law_drawn T.d__law_drawn ["draw", "count"] (spD K mg 2 F__law_drawn) :=
  fn_denT T.f__law_drawn sc__law_drawn rfl (by decide +kernel) (by decide) fun cdv A outer s H E hr =>
    dsst_cons (dst_ret (det_repl [10] [126] (det_of (de_call ((ok__law_signs T).mono (by decide)) hr (by rfl) T.g__law_signs T.f__law_signs.kp T.b__law_signs (takes_of rfl rfl rfl rfl) (da_cons (de_var 0 (pv 0)) (da_cons (de_var 1 (pv 1)) (da_nil))))))) <|
    dsst_of dss_nil
theorem ok__law_spoilt_rows (T : Top K mg) : FnOk P w K mg base (L2.CX P w) (4 + 1) T.a__law_spoilt_rows T.d__law_spoilt_rows ["lines", "draws"] (spD K mg 2 F__law_spoilt_rows) :=
  fn_den T.f__law_spoilt_rows sc__law_spoilt_rows rfl fun cdv A outer s H E hr =>
    dss_cons (ds_set 2 sc__law_spoilt_rows.nd rfl (.inl rfl) (de_call ((ok__law_journal T).mono (by decide)) hr (by rfl) T.g__law_journal T.f__law_journal.kp T.b__law_journal (takes_of rfl rfl rfl rfl) (da_cons (de_var 0 (pv 0)) (da_nil)))) <|
    dss_cons (ds_for (passes_of rfl) rfl (di_rng (by rfl) T.z_range (de_len (by rfl) T.z_len (de_var 0 (pv 0)))) (dg_name 3 sc__law_spoilt_rows.nd rfl (.inl rfl) (.inl rfl)) (dss_cons (ds_set 4 sc__law_spoilt_rows.nd rfl (.inl rfl) (de_ix (de_var 0 (pv 0)) (de_var 3 (pv 3)))) <|
    dss_one (ds_if (dt_gt (de_len (by rfl) T.z_len (de_var 4 (pv 4))) (de_int)) (dss_cons (ds_set 5 sc__law_spoilt_rows.nd rfl (.inl rfl) (de_mod (de_ix (de_var 1 (pv 1)) (de_var 3 (pv 3))) (de_len (by rfl) T.z_len (de_var 4 (pv 4))))) <|
    dss_cons (ds_set 6 sc__law_spoilt_rows.nd rfl (.inl rfl) (de_call ((ok__law_journal T).mono (by decide)) hr (by rfl) T.g__law_journal T.f__law_journal.kp T.b__law_journal (takes_of rfl rfl rfl rfl) (da_cons (de_slice (de_var 0 (pv 0)) (do_some (de_int)) (do_some (de_var 3 (pv 3)))) (da_nil)))) <|
    dss_cons (ds_set 7 sc__law_spoilt_rows.nd rfl (.inl rfl) (de_call ((ok__law_record T).mono (by decide)) hr (by rfl) T.g__law_record T.f__law_record.kp T.b__law_record (takes_of rfl rfl rfl rfl) (da_cons (de_add (de_var 3 (pv 3)) (de_int)) (da_cons (de_var 4 (pv 4)) (da_nil))))) <|
    dss_cons (ds_set 8 sc__law_spoilt_rows.nd rfl (.inl rfl) (de_slice (de_var 2 (pv 2)) (do_some (de_add (de_len (by rfl) T.z_len (de_var 6 (pv 6))) (de_len (by rfl) T.z_len (de_var 7 (pv 7))))) (do_none))) <|
    dss_cons (ds_set 9 sc__law_spoilt_rows.nd rfl (.inl rfl) (de_slice (de_var 7 (pv 7)) (do_some (de_int)) (do_some (de_sub (de_sub (de_len (by rfl) T.z_len (de_var 7 (pv 7))) (de_int)) (de_len (by rfl) T.z_len (de_var 4 (pv 4))))))) <|
    dss_cons (ds_for (passes_of rfl) rfl (di_val (de_add (de_call ((ok__law_drawn T).mono (by decide)) hr (by rfl) T.g__law_drawn T.f__law_drawn.kp T.b__law_drawn (takes_of rfl rfl rfl rfl) (da_cons (de_ix (de_var 1 (pv 1)) (de_add (de_var 3 (pv 3)) (de_int))) (da_cons (de_int) (da_nil)))) (de_str [32, 126, 44]))) (dg_name 10 sc__law_spoilt_rows.nd rfl (.inl rfl) (.inl rfl)) (dss_one (ds_if (dw_pt (dw_and (dt_ne (un_of hr) (de_var 10 (pv 10)) (de_ix (de_var 4 (pv 4)) (de_var 5 (pv 5)))) (dw_and1 (dt_not (dt_truth (de_call ((ok__law_same T 3).mono (by decide)) hr (by rfl) T.g__law_same T.f__law_same.kp T.b__law_same (takes_of rfl rfl rfl rfl) (da_cons (de_call ((ok_payloads_in T).mono (by decide)) hr (by rfl) T.g_payloads_in T.f_payloads_in.kp T.b_payloads_in (takes_of rfl rfl rfl rfl) (da_cons (de_add (de_add (de_add (de_add (de_add (de_add (de_var 6 (pv 6)) (de_var 9 (pv 9))) (de_slice (de_var 4 (pv 4)) (do_some (de_int)) (do_some (de_var 5 (pv 5))))) (de_var 10 (pv 10))) (de_slice (de_var 4 (pv 4)) (do_some (de_add (de_var 5 (pv 5)) (de_int))) (do_none))) (de_str [10])) (de_var 8 (pv 8))) (da_nil))) (da_cons (de_slice (de_var 0 (pv 0)) (do_some (de_int)) (do_some (de_var 3 (pv 3)))) (da_nil))))))))) (dss_one (ds_ret (de_bl))) (dss_nil)))) <|
    dss_one (ds_if (dw_pt (dw_and (dt_lt (de_add (de_var 5 (pv 5)) (de_int)) (de_len (by rfl) T.z_len (de_var 4 (pv 4)))) (dw_and1 (dt_ne (un_of hr) (de_ix (de_var 4 (pv 4)) (de_var 5 (pv 5))) (de_ix (de_var 4 (pv 4)) (de_add (de_var 5 (pv 5)) (de_int))))))) (dss_cons (ds_set 11 sc__law_spoilt_rows.nd rfl (.inl rfl) (de_add (de_add (de_add (de_slice (de_var 4 (pv 4)) (do_some (de_int)) (do_some (de_var 5 (pv 5)))) (de_ix (de_var 4 (pv 4)) (de_add (de_var 5 (pv 5)) (de_int)))) (de_ix (de_var 4 (pv 4)) (de_var 5 (pv 5)))) (de_slice (de_var 4 (pv 4)) (do_some (de_add (de_var 5 (pv 5)) (de_int))) (do_none)))) <|
    dss_one (ds_if (dt_not (dt_truth (de_call ((ok__law_same T 3).mono (by decide)) hr (by rfl) T.g__law_same T.f__law_same.kp T.b__law_same (takes_of rfl rfl rfl rfl) (da_cons (de_call ((ok_payloads_in T).mono (by decide)) hr (by rfl) T.g_payloads_in T.f_payloads_in.kp T.b_payloads_in (takes_of rfl rfl rfl rfl) (da_cons (de_add (de_add (de_add (de_add (de_var 6 (pv 6)) (de_var 9 (pv 9))) (de_var 11 (pv 11))) (de_str [10])) (de_var 8 (pv 8))) (da_nil))) (da_cons (de_slice (de_var 0 (pv 0)) (do_some (de_int)) (do_some (de_var 3 (pv 3)))) (da_nil)))))) (dss_one (ds_ret (de_bl))) (dss_nil))) (dss_nil))) (dss_nil)))) <|
    dss_one (ds_ret (de_bl))
theorem ok__law_texts (T : Top K mg) : FnOk P w K mg base (L2.CX P w) (3 + 1) T.a__law_texts T.d__law_texts ["lines", "draws"] (spD K mg 2 F__law_texts) :=
  fn_den T.f__law_texts sc__law_texts rfl fun cdv A outer s H E hr =>
    dss_cons (ds_set 2 sc__law_texts.nd rfl (.inl rfl) (de_call ((ok__law_journal T).mono (by decide)) hr (by rfl) T.g__law_journal T.f__law_journal.kp T.b__law_journal (takes_of rfl rfl rfl rfl) (da_cons (de_var 0 (pv 0)) (da_nil)))) <|
    dss_cons (ds_set 3 sc__law_texts.nd rfl (.inl rfl) (de_mod (de_ix (de_var 1 (pv 1)) (de_int)) (de_add (de_len (by rfl) T.z_len (de_var 0 (pv 0))) (de_int)))) <|
    dss_cons (ds_set 4 sc__law_texts.nd rfl (.inl rfl) (de_call ((ok__law_journal T).mono (by decide)) hr (by rfl) T.g__law_journal T.f__law_journal.kp T.b__law_journal (takes_of rfl rfl rfl rfl) (da_cons (de_slice (de_var 0 (pv 0)) (do_some (de_int)) (do_some (de_var 3 (pv 3)))) (da_nil)))) <|
    dss_cons (ds_setLc 5 (own := [("row", 6)]) rfl sc__law_texts.nd rfl rfl (sw_true rfl rfl rfl rfl) (blkOk_by (by show blkC N__law_texts (defScope st__law_texts) _ _ = true; decide +kernel)) (by decide) (di_val (de_slice (de_split (de_var 2 (pv 2)) (de_str [10])) (do_none) (do_some (de_neg (de_int))))) (fun _ _ _ _ _ => dg_name 6 sc__law_texts.nd rfl (.inl rfl) (.inr rfl)) (fun _ _ _ _ _ => dts_nil) (fun _ _ _ _ _ => de_add (de_var 6 (pv 6)) (de_str [10]))) <|
    dss_cons (ds_set 7 sc__law_texts.nd rfl (.inl rfl) (de_lst (da_cons (de_var 2 (pv 2)) (da_cons (de_slice (de_var 2 (pv 2)) (do_some (de_int)) (do_some (de_mod (de_ix (de_var 1 (pv 1)) (de_int)) (de_add (de_len (by rfl) T.z_len (de_var 2 (pv 2))) (de_int))))) (da_cons (de_add (de_var 4 (pv 4)) (de_var 2 (pv 2))) (da_cons (de_add (de_var 2 (pv 2)) (de_str [10])) (da_cons (de_str []) (da_cons (de_slice (de_var 4 (pv 4)) (do_some (de_int)) (do_some (de_max2 rfl (by rfl) T.z_max (de_int) (de_sub (de_len (by rfl) T.z_len (de_var 4 (pv 4))) (de_int))))) (da_cons (de_join (de_str []) (de_rev (de_var 5 (pv 5)))) (da_cons (de_join (de_str []) (de_add (de_slice (de_var 5 (pv 5)) (do_some (de_int)) (do_some (de_var 3 (pv 3)))) (de_slice (de_var 5 (pv 5)) (do_some (de_add (de_var 3 (pv 3)) (de_int))) (do_none)))) (da_nil))))))))))) <|
    dss_cons (ds_set 7 sc__law_texts.nd rfl (.inl rfl) (de_add (de_var 7 (pv 7)) (de_lst (da_cons (de_add (de_add (de_var 4 (pv 4)) (de_str [48])) (de_slice (de_var 2 (pv 2)) (do_some (de_len (by rfl) T.z_len (de_var 4 (pv 4)))) (do_none))) (da_cons (de_add (de_add (de_var 4 (pv 4)) (de_str [32])) (de_slice (de_var 2 (pv 2)) (do_some (de_len (by rfl) T.z_len (de_var 4 (pv 4)))) (do_none))) (da_cons (de_add (de_add (de_var 4 (pv 4)) (de_strc (by rfl) T.z_str (de_add (de_var 3 (pv 3)) (de_int)))) (de_str [44, 48, 44, 10])) (da_cons (de_str [49, 44, 48, 44, 10]) (da_cons (de_str [49, 44, 48, 10]) (da_cons (de_str [49, 44, 57, 55, 44, 97, 10]) (da_cons (de_str [49, 44, 48, 57, 55, 44, 97, 10]) (da_cons (de_str [49, 44, 57, 56, 44, 97, 10]) (da_cons (de_str [48, 49, 44, 57, 55, 44, 97, 10]) (da_nil))))))))))))) <|
    dss_cons (ds_set 7 sc__law_texts.nd rfl (.inl rfl) (de_add (de_var 7 (pv 7)) (de_lst (da_cons (de_str [50, 44, 57, 55, 44, 97, 10]) (da_cons (de_str [49, 44, 50, 57, 51, 44, 97, 98, 10]) (da_cons (de_str [49, 44, 57, 55, 44, 97]) (da_cons (de_str [49, 44, 57, 55, 44, 44, 97, 10]) (da_cons (de_str [44, 44, 10]) (da_nil))))))))) <|
    dss_cons (ds_set 7 sc__law_texts.nd rfl (.inl rfl) (de_add (de_var 7 (pv 7)) (de_lst (da_cons (de_join (de_str []) (de_add (de_add (de_slice (de_var 5 (pv 5)) (do_some (de_int)) (do_some (de_var 3 (pv 3)))) (de_slice (de_var 5 (pv 5)) (do_some (de_var 3 (pv 3))) (do_some (de_add (de_var 3 (pv 3)) (de_int))))) (de_slice (de_var 5 (pv 5)) (do_some (de_var 3 (pv 3))) (do_none)))) (da_cons (de_join (de_str []) (de_add (de_add (de_add (de_slice (de_var 5 (pv 5)) (do_some (de_int)) (do_some (de_var 3 (pv 3)))) (de_slice (de_var 5 (pv 5)) (do_some (de_add (de_var 3 (pv 3)) (de_int))) (do_some (de_add (de_var 3 (pv 3)) (de_int))))) (de_slice (de_var 5 (pv 5)) (do_some (de_var 3 (pv 3))) (do_some (de_add (de_var 3 (pv 3)) (de_int))))) (de_slice (de_var 5 (pv 5)) (do_some (de_add (de_var 3 (pv 3)) (de_int))) (do_none)))) (da_nil)))))) <|
    dss_cons (ds_app 7 (pv 7) (de_add (de_add (de_var 4 (pv 4)) (de_call ((ok__law_record T).mono (by decide)) hr (by rfl) T.g__law_record T.f__law_record.kp T.b__law_record (takes_of rfl rfl rfl rfl) (da_cons (de_add (de_var 3 (pv 3)) (de_int)) (da_cons (de_mulS (de_str [97]) (de_add (de_int) (de_mod (de_ix (de_var 1 (pv 1)) (de_int)) (de_int)))) (da_nil))))) (de_call ((ok__law_record T).mono (by decide)) hr (by rfl) T.g__law_record T.f__law_record.kp T.b__law_record (takes_of rfl rfl rfl rfl) (da_cons (de_add (de_var 3 (pv 3)) (de_int)) (da_cons (de_str [98]) (da_nil)))))) <|
    dss_one (ds_ret (de_add (de_var 7 (pv 7)) (de_lst (da_cons (de_call ((ok__law_bent T).mono (by decide)) hr (by rfl) T.g__law_bent T.f__law_bent.kp T.b__law_bent (takes_of rfl rfl rfl rfl) (da_cons (de_var 2 (pv 2)) (da_cons (de_var 1 (pv 1)) (da_cons (de_int) (da_nil))))) (da_cons (de_call ((ok__law_bent T).mono (by decide)) hr (by rfl) T.g__law_bent T.f__law_bent.kp T.b__law_bent (takes_of rfl rfl rfl rfl) (da_cons (de_var 2 (pv 2)) (da_cons (de_var 1 (pv 1)) (da_cons (de_int) (da_nil))))) (da_cons (de_call ((ok__law_bent T).mono (by decide)) hr (by rfl) T.g__law_bent T.f__law_bent.kp T.b__law_bent (takes_of rfl rfl rfl rfl) (da_cons (de_var 2 (pv 2)) (da_cons (de_var 1 (pv 1)) (da_cons (de_int) (da_nil))))) (da_nil)))))))
theorem ok_law (T : Top K mg) : FnOk P w K mg base (L2.CX P w) (5 + 1) T.a_law T.d_law ["script"] (spD K mg 1 F_law) :=
  fn_den T.f_law sc_law rfl fun cdv A outer s H E hr =>
    dss_cons (ds_set 1 sc_law.nd rfl (.inr rfl) (de_call ((ok__law_numbers T).mono (by decide)) hr (by rfl) T.g__law_numbers T.f__law_numbers.kp T.b__law_numbers (takes_of rfl rfl rfl rfl) (da_cons (de_call ((ok__law_cell T).mono (by decide)) hr (by rfl) T.g__law_cell T.f__law_cell.kp T.b__law_cell (takes_of rfl rfl rfl rfl) (da_cons (de_var 0 (pv 0)) (da_cons (de_int) (da_nil)))) (da_cons (de_int) (da_cons (de_int) (da_nil)))))) <|
    dss_cons (ds_setLc 2 (own := [("k", 3)]) rfl sc_law.nd rfl rfl (sw_true rfl rfl rfl rfl) (blkOk_by (by show blkC N_law (defScope st_law) _ _ = true; decide +kernel)) (by decide) (di_rng (by rfl) T.z_range (de_add (de_int) (de_mod (de_ix (de_var 1 (pv 1)) (de_int)) (de_int)))) (fun _ _ _ _ _ => dg_name 3 sc_law.nd rfl (.inl rfl) (.inr rfl)) (fun _ _ _ _ _ => dts_nil) (fun _ _ _ _ _ => de_call ((ok__law_drawn T).mono (by decide)) hr (by rfl) T.g__law_drawn T.f__law_drawn.kp T.b__law_drawn takes0 (da_cons (de_add (de_mulI (de_ix (de_var 1 (pv 1)) (de_var 3 (pv 3))) (de_int)) (de_var 3 (pv 3))) (da_cons (de_ix (de_lst (da_cons (de_mod (de_ix (de_var 1 (pv 1)) (de_add (de_int) (de_var 3 (pv 3)))) (de_int)) (da_cons (de_mod (de_ix (de_var 1 (pv 1)) (de_add (de_int) (de_var 3 (pv 3)))) (de_int)) (da_cons (de_int) (da_nil))))) (de_mod (de_ix (de_var 1 (pv 1)) (de_var 3 (pv 3))) (de_int))) (da_nil))))) <|
    dss_cons (ds_if (dt_eq (un_of hr) (de_mod (de_ix (de_var 1 (pv 1)) (de_int)) (de_int)) (de_int)) (dss_one (ds_sub 2 (pv 2) (de_int) (de_add (de_add (de_str [44, 32, 97, 44, 98]) (de_ix (de_var 2 (pv 2)) (de_int))) (de_str [32, 44])))) (dss_nil)) <|
    dss_cons (ds_set 4 sc_law.nd rfl (.inl rfl) (de_listc (by rfl) T.z_list (de_var 2 (pv 2)))) <|
    dss_cons (ds_for (passes_of rfl) rfl (di_val (de_add (de_var 2 (pv 2)) (de_lst (da_cons (de_str [97, 98]) (da_cons (de_str [97]) (da_cons (de_str []) (da_nil))))))) (dg_name 5 sc_law.nd rfl (.inl rfl) (.inl rfl)) (dss_one (ds_if (dt_not (dt_truth (de_call ((ok__law_same T 3).mono (by decide)) hr (by rfl) T.g__law_same T.f__law_same.kp T.b__law_same (takes_of rfl rfl rfl rfl) (da_cons (de_call ((ok_check_of T).mono (by decide)) hr (by rfl) T.g_check_of T.f_check_of.kp T.b_check_of (takes_of rfl rfl rfl rfl) (da_cons (de_var 5 (pv 5)) (da_nil))) (da_cons (de_call ((ok__law_check_of T).mono (by decide)) hr (by rfl) T.g__law_check_of T.f__law_check_of.kp T.b__law_check_of (takes_of rfl rfl rfl rfl) (da_cons (de_var 5 (pv 5)) (da_nil))) (da_nil)))))) (dss_one (ds_ret (de_bl))) (dss_nil)))) <|
    dss_cons (ds_if (dw_pt (dw_or (dt_not (dt_truth (de_call ((ok__law_same T 3).mono (by decide)) hr (by rfl) T.g__law_same T.f__law_same.kp T.b__law_same (takes_of rfl rfl rfl rfl) (da_cons (de_lst (da_cons (de_call ((ok_journal_of T).mono (by decide)) hr (by rfl) T.g_journal_of T.f_journal_of.kp T.b_journal_of (takes_of rfl rfl rfl rfl) (da_cons (de_listc (by rfl) T.z_list (de_var 2 (pv 2))) (da_nil))) (da_cons (de_call ((ok_journal_of T).mono (by decide)) hr (by rfl) T.g_journal_of T.f_journal_of.kp T.b_journal_of (takes_of rfl rfl rfl rfl) (da_cons (de_lst (da_nil)) (da_nil))) (da_nil)))) (da_cons (de_lst (da_cons (de_call ((ok__law_journal T).mono (by decide)) hr (by rfl) T.g__law_journal T.f__law_journal.kp T.b__law_journal (takes_of rfl rfl rfl rfl) (da_cons (de_var 2 (pv 2)) (da_nil))) (da_cons (de_str []) (da_nil)))) (da_nil)))))) (dw_or (dt_ne (un_of hr) (de_var 2 (pv 2)) (de_var 4 (pv 4))) (dw_or1 (dt_not (dt_truth (de_call ((ok__law_spoilt_rows T).mono (by decide)) hr (by rfl) T.g__law_spoilt_rows T.f__law_spoilt_rows.kp T.b__law_spoilt_rows (takes_of rfl rfl rfl rfl) (da_cons (de_var 2 (pv 2)) (da_cons (de_var 1 (pv 1)) (da_nil)))))))))) (dss_one (ds_ret (de_bl))) (dss_nil)) <|
    dss_cons (ds_for (passes_of rfl) rfl (di_val (de_call ((ok__law_texts T).mono (by decide)) hr (by rfl) T.g__law_texts T.f__law_texts.kp T.b__law_texts (takes_of rfl rfl rfl rfl) (da_cons (de_var 2 (pv 2)) (da_cons (de_slice (de_var 1 (pv 1)) (do_some (de_int)) (do_none)) (da_nil))))) (dg_name 6 sc_law.nd rfl (.inl rfl) (.inl rfl)) (dss_one (ds_for (passes_of rfl) rfl (di_rng (by rfl) T.z_range (de_int)) (dg_name 7 sc_law.nd rfl (.inl rfl) (.inl rfl)) (dss_cons (ds_set 8 sc_law.nd rfl (.inl rfl) (de_call ((ok_payloads_in T).mono (by decide)) hr (by rfl) T.g_payloads_in T.f_payloads_in.kp T.b_payloads_in (takes_of rfl rfl rfl rfl) (da_cons (de_var 6 (pv 6)) (da_nil)))) <|
    dss_cons (ds_if (dt_not (dt_truth (de_call ((ok__law_same T 3).mono (by decide)) hr (by rfl) T.g__law_same T.f__law_same.kp T.b__law_same (takes_of rfl rfl rfl rfl) (da_cons (de_var 8 (pv 8)) (da_cons (de_call ((ok__law_records T).mono (by decide)) hr (by rfl) T.g__law_records T.f__law_records.kp T.b__law_records (takes_of rfl rfl rfl rfl) (da_cons (de_var 6 (pv 6)) (da_nil))) (da_nil)))))) (dss_one (ds_ret (de_bl))) (dss_nil)) <|
    dss_one (ds_app 8 (pv 8) (de_str [99, 104, 97, 110, 103, 101, 100])))))) <|
    dss_one (ds_ret (de_eq (un_of hr) (de_call ((ok_check_of T).mono (by decide)) hr (by rfl) T.g_check_of T.f_check_of.kp T.b_check_of (takes_of rfl rfl rfl rfl) (da_cons (de_str [97, 98]) (da_nil))) (de_int)))
end
end PL
set_option Elab.async false
set_option linter.all false
set_option maxRecDepth 100000
set_option maxHeartbeats 4000000
/-! Mk62: what the defs of k62 answer, in plain Lean. -/
namespace PL
open PySem PySem.Spec L2

/-! ### the check -/
def chs : Nat → List Nat → Nat
  | _, [] => 0
  | k, c :: r => (k + 1) * c + chs (k + 1) r
def chk (x : List Nat) : Nat := chs 0 x % 977
theorem enumS (x : List Nat) : enumD (x.map fun c => D.str [c]) = x.zipIdx.map fun p => D.tup [.int (p.2 : Nat), .str [p.1]] := by
  unfold enumD
  rw [List.zipIdx_map, List.map_map]
  rfl
theorem chs_sum : ∀ (x : List Nat) (k : Nat), ((x.zipIdx k).map fun p => (((p.2 : Nat) : Int) + 1) * (p.1 : Int)).sum = (chs k x : Nat)
  | [], k => rfl
  | c :: r, k => by
    rw [List.zipIdx_cons, List.map_cons, List.sum_cons, chs_sum r (k + 1)]
    show _ = (((k + 1) * c + chs (k + 1) r : Nat) : Int)
    rw [Int.natCast_add, Int.natCast_mul]
    rfl
theorem e_check (x : List Nat) (h : x.length ≤ 16777216) : F_check_of [.str x] = .ok (.cl, .int (chk x : Nat)) := by
  show runB (B_check_of [some (false, .str x), none, none]) = _
  unfold B_check_of sRet
  rw [op2_ok (r := .ok (.cl, .int (chk x : Nat))) (op1_ok (r := .ok (.cl, .int (chs 0 x : Nat))) (lcF_ok (p := (false, enumD (x.map fun c => D.str [c]))) (ys := (x.zipIdx.map fun p => (((p.2 : Nat) : Int) + 1) * (p.1 : Int)).map D.int) rfl ?_ ?_) ?_) rfl ?_]
  · rfl
  · rw [enumD_len, List.length_map]; exact h
  · rw [enumS, lcA_map (g := fun p => D.int ((((p.2 : Nat) : Int) + 1) * (p.1 : Int)))]
    · rw [List.map_map]; rfl
    · intro p hp
      have hm : p.2 < x.length := by
        have := List.snd_lt_of_mem_zipIdx hp
        omega
      exact turn_ok (ρ1 := [some (false, .str x), some (false, .int p.2), some (false, .str [p.1])]) rfl rfl (op2_ok (op2_ok rfl rfl gAdd_i) (op1_ok rfl rfl) (gMul_i' (by omega))) rfl
  · show (match unI _ with | some ns => _ | none => _) = _
    rw [unI_map]
    show R.ok (Kd.cl, D.int (List.sum _)) = _
    rw [chs_sum]
  · rw [gMod_i (by decide)]
    rfl
/-! ### records -/
def recd (n : Nat) (p : List Nat) : List Nat := TL.numL n ++ 44 :: (TL.numL (chk p) ++ 44 :: (p ++ [10]))
theorem chk_lt (x : List Nat) : chk x < 977 := Nat.mod_lt _ (by decide)
theorem chk_len (x : List Nat) : (TL.numL (chk x)).length ≤ 3 := TL.numL_len (by decide) (Nat.lt_of_lt_of_le (chk_lt x) (by decide))
theorem num_len {n : Nat} (h : n < 2 ^ 64) : (TL.numL n).length ≤ 20 := TL.numL_len (by decide) (Nat.lt_of_lt_of_le h (by decide))
theorem recd_len {n : Nat} (h : n < 2 ^ 64) (p : List Nat) : (recd n p).length ≤ p.length + 26 := by
  have h1 := chk_len p
  have h2 := num_len h
  unfold recd
  simp only [List.length_append, List.length_cons, List.length_nil]
  omega
theorem lt64 {n : Nat} (h : n < 977) : n < 2 ^ 64 := Nat.lt_trans h (by decide)
theorem e_record (n : Nat) (p : List Nat) (hn : n < 2 ^ 64) (hp : p.length ≤ 16000000) : F_record [.int n, .str p] = .ok (.cl, .str (recd n p)) := by
  have h1 := chk_len p
  have h2 := num_len hn
  have hc : fFmt (eCall F_check_of 1 (aCons (eVar 1) aNil)) [some (false, .int n), some (false, .str p)] = .ok (.cl, .str (TL.numL (chk p))) :=
    fFmt_i (eCall_ok (aCons_ok rfl rfl) rfl rfl (e_check p (by omega)) rfl) (lt64 (chk_lt p))
  have h0 : fFmt (eVar 0) [some (false, .int n), some (false, .str p)] = .ok (.cl, .str (TL.numL n)) := fFmt_i rfl hn
  have hq : fFmt (eVar 1) [some (false, .int n), some (false, .str p)] = .ok (.cl, .str p) := fFmt_s rfl (by omega)
  have c1 : eC (.str [44]) [some (false, .int n), some (false, .str p)] = .ok (.cl, .str [44]) := rfl
  have c2 : eC (.str [10]) [some (false, .int n), some (false, .str p)] = .ok (.cl, .str [10]) := rfl
  have hz : ([] ++ TL.numL n ++ [44] ++ TL.numL (chk p) ++ [44] ++ p ++ [10] : List Nat) = recd n p := by
    unfold recd
    simp only [List.nil_append, List.append_assoc, List.cons_append]
  have hl : ([] ++ TL.numL n ++ [44] ++ TL.numL (chk p) ++ [44] ++ p ++ [10] : List Nat).length ≤ 16777216 := by
    simp only [List.length_append, List.length_cons, List.length_nil]; omega
  simp only [List.length_append] at hl
  have key : eFs [fFmt (eVar 0), eC (.str [44]), fFmt (eCall (F_check_of) 1 (aCons (eVar 1) (aNil))), eC (.str [44]), fFmt (eVar 1), eC (.str [10])] [] [some (false, .int n), some (false, .str p)] = .ok (.cl, .str (recd n p)) := by
    refine (eFs_cons h0 ?_).trans ((eFs_cons c1 ?_).trans ((eFs_cons hc ?_).trans ((eFs_cons c1 ?_).trans ((eFs_cons hq ?_).trans ((eFs_cons c2 ?_).trans ?_)))))
    · simp only [List.length_append]; omega
    · simp only [List.length_append]; omega
    · simp only [List.length_append]; omega
    · simp only [List.length_append]; omega
    · simp only [List.length_append]; omega
    · simp only [List.length_append]; omega
    · rw [hz]; rfl
  exact fn_ok rfl rfl (sRet_ok key) rfl
theorem joinL_nil : ∀ xs : List (List Nat), TL.joinL [] xs = xs.flatten
  | [] => rfl
  | [p] => by simp [TL.joinL]
  | p :: q :: r => by
    show p ++ ([] ++ TL.joinL [] (q :: r)) = _
    rw [joinL_nil (q :: r), List.nil_append]
    rfl
/-- the records of payloads, from a number on -/
def recs : Nat → List (List Nat) → List (List Nat)
  | _, [] => []
  | k, p :: r => recd (k + 1) p :: recs (k + 1) r
def jour (ps : List (List Nat)) : List Nat := (recs 0 ps).flatten
theorem recs_len (ps : List (List Nat)) : ∀ k, (recs k ps).length = ps.length := by
  induction ps with
  | nil => intro _; rfl
  | cons p r ih => intro k; show (recs (k + 1) r).length + 1 = r.length + 1; rw [ih]
theorem recs_zip : ∀ (ps : List (List Nat)) (k : Nat), (ps.zipIdx k).map (fun p => recd (p.2 + 1) p.1) = recs k ps
  | [], _ => rfl
  | p :: r, k => by rw [List.zipIdx_cons, List.map_cons, recs_zip r]; rfl
theorem recs_sum {m : Nat} : ∀ (ps : List (List Nat)) (k : Nat), (∀ p ∈ ps, p.length ≤ m) → k + ps.length < 2 ^ 60 → ((recs k ps).map List.length).sum ≤ ps.length * (m + 26)
  | [], _, _, _ => by simp [recs]
  | p :: r, k, h, hk => by
    have h1 := recd_len (n := k + 1) (by rw [List.length_cons] at hk; omega) p
    have h2 := h p List.mem_cons_self
    have h3 := recs_sum r (k + 1) (fun q hq => h q (List.mem_cons_of_mem _ hq)) (by rw [List.length_cons] at hk; omega)
    show (recd (k + 1) p).length + ((recs (k + 1) r).map List.length).sum ≤ (r.length + 1) * (m + 26)
    rw [Nat.add_mul]
    omega
/-- texts that are not too long, and not too many -/
def Sm (n m : Nat) (ps : List (List Nat)) : Prop := ps.length ≤ n ∧ ∀ p ∈ ps, p.length ≤ m
theorem recs_fit {ps : List (List Nat)} (h : Sm 100 20100 ps) : joinSize [] (recs 0 ps) ≤ 16777216 := by
  have h1 := recs_sum ps 0 h.2 (by have := h.1; omega)
  have h2 : ps.length * (20100 + 26) ≤ 100 * (20100 + 26) := Nat.mul_le_mul_right _ h.1
  unfold joinSize
  simp only [List.length_nil, Nat.mul_zero, Nat.add_zero]
  omega
theorem enumT (ps : List (List Nat)) : enumD (ps.map D.str) = ps.zipIdx.map fun p => D.tup [.int (p.2 : Nat), .str p.1] := by
  unfold enumD
  rw [List.zipIdx_map, List.map_map]
  rfl
theorem e_journal (ps : List (List Nat)) (h : Sm 100 20100 ps) : F_journal_of [.lst (ps.map .str)] = .ok (.cl, .str (jour ps)) := by
  show runB (B_journal_of [some (false, .lst (ps.map .str)), none, none]) = _
  unfold B_journal_of sRet
  rw [mth1_ok (a := []) (r := .ok (.cl, .str (jour ps))) rfl (lcF_ok (p := (false, enumD (ps.map D.str))) (ys := (recs 0 ps).map D.str) rfl ?_ ?_) ?_]
  · rfl
  · rw [enumD_len, List.length_map]
    have := h.1
    show ps.length ≤ 16777216
    omega
  · rw [enumT, lcA_map (g := fun p => D.str (recd (p.2 + 1) p.1))]
    · rw [← recs_zip, List.map_map]; rfl
    · intro p hp
      have hm : p.2 < ps.length := by
        have := List.snd_lt_of_mem_zipIdx hp
        omega
      have hl := h.2 p.1 (List.fst_mem_of_mem_zipIdx hp)
      have hs := h.1
      exact turn_ok (ρ1 := [some (false, .lst (ps.map .str)), some (false, .int p.2), some (false, .str p.1)]) rfl rfl (e := (.cl, .str (recd (p.2 + 1) p.1))) (by
        refine eCall_ok (aCons_ok (op2_ok rfl rfl gAdd_i) (aCons_ok rfl rfl)) rfl rfl (e_record (p.2 + 1) p.1 (by omega) (by omega)) rfl) rfl
  · rw [gJoin_l (recs_fit h), joinL_nil]
    rfl
end PL
set_option Elab.async false
set_option linter.all false
set_option maxRecDepth 100000
set_option maxHeartbeats 4000000
/-! Mk62b: the payloads in a text. -/
namespace PL
open PySem PySem.Spec L2

/-! ### cuts at one sign -/
theorem pre1 (s c : Nat) (r : List Nat) : TL.pre [s] (c :: r) = (c == s) := by
  show ([c] == [s]) = (c == s)
  rw [Bool.eq_iff_iff, beq_iff_eq, beq_iff_eq]
  exact ⟨fun h => (List.cons.inj h).1, fun h => by rw [h]⟩
theorem spl1_hit (s : Nat) (acc r : List Nat) : TL.spl [s] 0 acc (s :: r) = acc :: TL.spl [s] 0 [] r := TL.spl_hit (by rw [pre1]; exact beq_self_eq_true s)
theorem spl1_miss {s c : Nat} (acc r : List Nat) (h : c ≠ s) : TL.spl [s] 0 acc (c :: r) = TL.spl [s] 0 (acc ++ [c]) r := TL.spl_miss (by rw [pre1]; exact beq_false_of_ne h)
theorem spl1_ne (s : Nat) : ∀ (l acc : List Nat), TL.spl [s] 0 acc l ≠ []
  | [], acc => by rw [TL.spl_nil]; exact List.cons_ne_nil _ _
  | c :: r, acc => by
    by_cases h : c = s
    · subst h; rw [spl1_hit]; exact List.cons_ne_nil _ _
    · rw [spl1_miss _ _ h]; exact spl1_ne s r _
theorem spl1_len (s : Nat) : ∀ (l acc : List Nat), (TL.spl [s] 0 acc l).length ≤ l.length + 1
  | [], acc => by rw [TL.spl_nil]; exact Nat.le_refl _
  | c :: r, acc => by
    by_cases h : c = s
    · subst h
      rw [spl1_hit, List.length_cons, List.length_cons]
      exact Nat.succ_le_succ (spl1_len c r [])
    · rw [spl1_miss _ _ h, List.length_cons]
      exact Nat.le_succ_of_le (spl1_len s r _)
theorem spl1_part (s : Nat) : ∀ (l acc : List Nat), ∀ p ∈ TL.spl [s] 0 acc l, p.length ≤ acc.length + l.length
  | [], acc => fun p hp => by
    rw [TL.spl_nil] at hp
    rw [List.mem_singleton.mp hp]; exact Nat.le_add_right _ _
  | c :: r, acc => fun p hp => by
    by_cases h : c = s
    · subst h
      rw [spl1_hit] at hp
      rcases List.mem_cons.mp hp with e | e
      · rw [e]; exact Nat.le_add_right _ _
      · have := spl1_part c r [] p e
        rw [List.length_cons]
        simp only [List.length_nil] at this
        omega
    · rw [spl1_miss _ _ h] at hp
      have := spl1_part s r _ p hp
      rw [List.length_append, List.length_singleton] at this
      rw [List.length_cons]
      omega
theorem spl1_free (s : Nat) : ∀ (l acc : List Nat), s ∉ acc → ∀ p ∈ TL.spl [s] 0 acc l, s ∉ p
  | [], acc => fun ha p hp => by
    rw [TL.spl_nil] at hp
    rw [List.mem_singleton.mp hp]; exact ha
  | c :: r, acc => fun ha p hp => by
    by_cases h : c = s
    · subst h
      rw [spl1_hit] at hp
      rcases List.mem_cons.mp hp with e | e
      · rw [e]; exact ha
      · exact spl1_free c r [] List.not_mem_nil p e
    · rw [spl1_miss _ _ h] at hp
      refine spl1_free s r _ (fun m => ?_) p hp
      rcases List.mem_append.mp m with m | m
      · exact ha m
      · exact h (List.mem_singleton.mp m).symm
/-- a row that ends -/
theorem spl1_row {s : Nat} {p : List Nat} (h : s ∉ p) (rest : List Nat) : TL.spl [s] 0 [] (p ++ s :: rest) = p :: TL.spl [s] 0 [] rest := by
  have := TL.spl_part1 (s := s) (S := []) (p := p) (rest := rest) (acc := []) h
  exact this
theorem dropLast_cons' {α : Type} {a : α} {l : List α} (h : l ≠ []) : (a :: l).dropLast = a :: l.dropLast := by
  cases l with
  | nil => exact absurd rfl h
  | cons b r => rfl

/-! ### behind the first comma -/
def aft (x : List Nat) : List Nat := match TL.par [44] [] x with
  | some (_, q) => q
  | none => []
theorem aft_none {x : List Nat} (h : 44 ∉ x) : aft x = [] := by unfold aft; rw [TL.par_none1 h]
theorem aft_some {a : List Nat} (b : List Nat) (h : 44 ∉ a) : aft (a ++ 44 :: b) = b := by
  unfold aft
  have := TL.par_part1 (s := 44) (S := []) (p := a) (rest := b) (acc := []) h
  rw [show a ++ 44 :: b = a ++ (44 :: [] ++ b) from rfl, this]
theorem cut44 (x : List Nat) : 44 ∉ x ∨ ∃ a b, x = a ++ 44 :: b ∧ 44 ∉ a := by
  induction x with
  | nil => exact .inl List.not_mem_nil
  | cons c r ih =>
    by_cases h : c = 44
    · exact .inr ⟨[], r, by rw [h]; rfl, List.not_mem_nil⟩
    · rcases ih with ih | ⟨a, b, e, n⟩
      · exact .inl fun m => (List.mem_cons.mp m).elim (fun z => h z.symm) ih
      · exact .inr ⟨c :: a, b, by rw [e]; rfl, fun m => (List.mem_cons.mp m).elim (fun z => h z.symm) n⟩
theorem aft_len (x : List Nat) : (aft x).length ≤ x.length := by
  rcases cut44 x with h | ⟨a, b, e, n⟩
  · rw [aft_none h]; exact Nat.zero_le _
  · rw [e, aft_some b n, List.length_append, List.length_cons]; omega
theorem part_ok {ρ : Ro} {fa : EF} {k : Kd} {x : List Nat} (ha : fa ρ = .ok (k, .str x)) (h : x.length ≤ 16777216) : op2 gIx (mth1 gPart fa (eC (.str [44]))) (eC (.int 2)) ρ = .ok (.cl, .str (aft x)) := by
  have hb : eC (.str [44]) ρ = .ok (.cl, .str [44]) := rfl
  have hc : eC (.int 2) ρ = .ok (.cl, .int 2) := rfl
  refine op2_ok (mth1_ok ha hb (gPart_ok h (by decide))) hc ?_
  unfold aft
  cases TL.par [44] [] x with
  | none => rfl
  | some z => rfl

/-! ### signs that may stand in a payload -/
def prc (c : Nat) : Bool := decide (32 ≤ c) && decide (c ≤ 126)
def prn (x : List Nat) : Bool := x.all prc
theorem lt1 (a b : Nat) : decide ([a] < [b]) = decide (a < b) := by
  rw [decide_eq_decide, List.cons_lt_cons_iff]
  exact ⟨fun h => h.elim (fun z => z) fun z => absurd z.2 (List.lt_irrefl []), .inl⟩
theorem not_dec_lt (a b : Nat) : (!decide (a < b)) = decide (b ≤ a) := by
  rw [← decide_not]
  exact decide_eq_decide.mpr Nat.not_lt
theorem gLe_1 (a b : Nat) : gLe (.str [a]) (.str [b]) = .ok (.cl, .bl (decide (a ≤ b))) := by
  show R.ok (Kd.cl, D.bl (!decide ([b] < [a]))) = _
  rw [lt1, not_dec_lt]
theorem chn_ok {ρ : Ro} {fa fb fc : EF} {g g' : D → D → R Ev} {k1 k2 k3 k4 : Kd} {x y z : D} {a b : Bool} (ha : fa ρ = .ok (k1, x)) (hb : fb ρ = .ok (k2, y)) (hg : g x y = .ok (k3, .bl a)) (hc : fc ρ = .ok (k4, z)) (hg' : g' y z = .ok (.cl, .bl b)) : chn g g' fa fb fc ρ = .ok (.cl, .bl (a && b)) := by
  unfold chn
  simp only [ha, hb, hg, R.bind_ok]
  cases a with
  | true => simp only [hc, R.bind_ok, hg', Bool.true_and]
  | false => rfl
theorem all_id (x : List Nat) (p : Nat → Bool) : (x.map p).all id = x.all p := by
  rw [List.all_map]
  rfl
def good (n : Nat) (row : List Nat) : Bool := (decide ((aft (aft row)).length ≤ 20010) && prn (aft (aft row))) && (recd n (aft (aft row)) == row ++ [10])
theorem e_payload (n : Nat) (row : List Nat) (hn : n < 2 ^ 64) (hr : row.length ≤ 16000000) : F_payload_in [.int n, .str row] = .ok (.cl, if good n row = true then .str (aft (aft row)) else .non) := by
  have l1 := aft_len row
  have l2 := aft_len (aft row)
  have p1 : op2 gIx (mth1 gPart (op2 gIx (mth1 gPart (eVar 1) (eC (.str [44]))) (eC (.int 2))) (eC (.str [44]))) (eC (.int 2)) [some (false, .int n), some (false, .str row), none, none] = .ok (.cl, .str (aft (aft row))) :=
    part_ok (part_ok (k := .cl) rfl (by omega)) (by omega)
  generalize hp : aft (aft row) = p at p1 l2
  let ρ : Ro := [some (false, .int n), some (false, .str row), some (false, .str p), none]
  have v2 : eVar 2 ρ = .ok (.cl, .str p) := rfl
  have t1 : t2 gGt (op1 gLen (eVar 2)) (eC (.int 20010)) ρ = .ok (decide ((20010 : Int) < (p.length : Int))) := t2_ok (op1_ok v2 (gLen_s (by omega))) rfl rfl
  have c1 : op1 (gAllAny true) (lcF (iVal (eVar 2)) [3] (gNm 3) (tYesF) (chn gLe gLe (eC (.str [32])) (eVar 3) (eC (.str [126])))) ρ = .ok (.cl, .bl (prn p)) := by
    refine op1_ok (lcF_ok (p := (false, p.map fun c => D.str [c])) (ys := (p.map prc).map D.bl) rfl ?_ ?_) ?_
    · rw [List.length_map]; omega
    · rw [lcA_map (g := fun c => D.bl (prc c)), List.map_map]
      · rfl
      · intro c hc
        refine turn_ok (ρ1 := [some (false, .int n), some (false, .str row), some (false, .str p), some (false, .str [c])]) rfl rfl (e := (.cl, .bl (prc c))) ?_ rfl
        exact chn_ok (k1 := .cl) (k2 := .cl) (k4 := .cl) (x := .str [32]) (y := .str [c]) (z := .str [126]) rfl rfl (gLe_1 32 c) rfl (gLe_1 c 126)
    · show (match unB _ with | some ns => _ | none => _) = _
      rw [unB_map]
      show R.ok (Kd.cl, D.bl ((p.map prc).all id)) = _
      rw [all_id]
      rfl
  have t3 : tOrF (t2 gGt (op1 gLen (eVar 2)) (eC (.int 20010))) (tNotF (tVal (op1 (gAllAny true) (lcF (iVal (eVar 2)) [3] (gNm 3) (tYesF) (chn gLe gLe (eC (.str [32])) (eVar 3) (eC (.str [126]))))))) ρ = .ok (decide ((20010 : Int) < (p.length : Int)) || !prn p) :=
    tOr_ok t1 (tNot_ok (tVal_b c1))
  have hb : B_payload_in [some (false, .int n), some (false, .str row), none, none] = .rt (.cl, if good n row = true then .str p else .non) := by
    unfold B_payload_in
    refine sSeq_n (ρ1 := ρ) (sSet_c p1) ?_
    unfold good
    rw [hp]
    by_cases h1 : p.length ≤ 20010
    · by_cases h2 : prn p = true
      · have f1 : (decide ((20010 : Int) < (p.length : Int)) || !prn p) = false := by rw [h2, decide_eq_false (by omega)]; rfl
        rw [f1] at t3
        refine sSeq_n (ρ1 := ρ) (sIf_f t3 rfl) (sRet_ok ?_)
        have hrec : eCall F_record 2 (aCons (eVar 0) (aCons (eVar 2) aNil)) ρ = .ok (.cl, .str (recd n p)) := eCall_ok (aCons_ok rfl (aCons_ok rfl rfl)) rfl rfl (e_record n p hn (by omega)) rfl
        have hadd : op2 gAdd (eVar 1) (eC (.str [10])) ρ = .ok (.cl, .str (row ++ [10])) := op2_ok (k1 := .cl) (k2 := .cl) (x := .str row) (y := .str [10]) rfl rfl (gAdd_s (by simp only [List.length_cons, List.length_nil]; omega))
        have heq := t2_ok (g := gEq) hrec hadd gEq_s
        rw [decide_eq_true h1, h2, Bool.true_and, Bool.true_and]
        cases hq : recd n p == row ++ [10] with
        | true => rw [hq] at heq; rw [if_pos rfl]; exact eIf_t heq rfl
        | false => rw [hq] at heq; rw [if_neg Bool.false_ne_true]; exact eIf_f heq rfl
      · have f1 : (decide ((20010 : Int) < (p.length : Int)) || !prn p) = true := by rw [Bool.not_eq_true] at h2; rw [h2]; simp
        rw [f1] at t3
        rw [Bool.not_eq_true] at h2
        rw [h2, Bool.and_false, Bool.false_and, if_neg Bool.false_ne_true]
        exact sSeq_r (sIf_t t3 rfl)
    · have f1 : (decide ((20010 : Int) < (p.length : Int)) || !prn p) = true := by rw [decide_eq_true (by omega)]; rfl
      rw [f1] at t3
      rw [decide_eq_false h1, Bool.false_and, Bool.false_and, if_neg Bool.false_ne_true]
      exact sSeq_r (sIf_t t3 rfl)
  rw [← hp] at hb ⊢
  exact fn_ok rfl rfl hb rfl

/-! ### all payloads -/
def pin : Nat → List (List Nat) → List (List Nat)
  | _, [] => []
  | n, r :: rs => if good n r = true then aft (aft r) :: pin (n + 1) rs else []
def rows (s : List Nat) : List (List Nat) := (TL.spl [10] 0 [] s).dropLast
theorem rows_sm {s : List Nat} {m : Nat} (h : s.length ≤ m) : (rows s).length ≤ m ∧ ∀ r ∈ rows s, r.length ≤ m := by
  refine ⟨?_, fun r hr => ?_⟩
  · have := spl1_len 10 s []
    unfold rows
    rw [List.length_dropLast]
    omega
  · have := spl1_part 10 s [] r (List.dropLast_subset _ hr)
    simp only [List.length_nil] at this
    omega
theorem split_rows {ρ : Ro} {fa : EF} {k : Kd} {s : List Nat} (ha : fa ρ = .ok (k, .str s)) (h : s.length ≤ 16000000) : iVal (eSl (mth1 gSplit fa (eC (.str [10]))) oNo (oSome (eNeg (eC (.int 1))))) ρ = .ok (false, (rows s).map D.str) := by
  have h1 : mth1 gSplit fa (eC (.str [10])) ρ = .ok (.fr, .lst ((TL.spl [10] 0 [] s).map D.str)) := mth1_ok (k2 := .cl) (y := .str [10]) ha rfl (gSplit_ok (by omega) (by decide) (by decide))
  have h2 : eSl (mth1 gSplit fa (eC (.str [10]))) oNo (oSome (eNeg (eC (.int 1)))) ρ = .ok (.fr, .lst ((rows s).map D.str)) := by
    unfold eSl
    rw [h1, R.bind_ok]
    show gSl (.lst _) none (some (-1)) = _
    show R.ok (Kd.fr, D.lst (cutL _ none (some (-1)))) = _
    rw [cut_init]
    unfold rows
    rw [List.map_dropLast]
  unfold iVal
  rw [h2]
  rfl
theorem e_loop (s : List Nat) : ∀ (rs fs : List (List Nat)) (a b : Sl), (∀ r ∈ rs, r.length ≤ 16000000) → fs.length + rs.length ≤ 16000000 →
    sSeq (forL (gNm 2) (sSeq (sSet 3 (eCall (F_payload_in) 2 (aCons (op2 gAdd (op1 gLen (eVar 1)) (eC (.int 1))) (aCons (eVar 2) (aNil))))) <|
    sSeq (sIf (tE' (eIsN false (eVar 3))) (sRetV 1) (sSkip)) <|
    sApp 1 (eVar 3)) (rs.map D.str)) (sRetV 1) [some (false, .str s), some (true, .lst (fs.map D.str)), a, b] = .rt (.fr, .lst ((fs ++ pin (fs.length + 1) rs).map D.str))
  | [], fs, a, b, _, _ => by
    rw [show pin (fs.length + 1) [] = [] from rfl, List.append_nil]
    exact sSeq_n (ρ1 := [some (false, .str s), some (true, .lst (fs.map D.str)), a, b]) rfl rfl
  | r :: rs, fs, a, b, hr, hl => by
    rw [List.length_cons] at hl
    have hl1 : fs.length < 2 ^ 63 := by omega
    let ρ1 : Ro := [some (false, .str s), some (true, .lst (fs.map D.str)), some (false, .str r), b]
    have hc : eCall F_payload_in 2 (aCons (op2 gAdd (op1 gLen (eVar 1)) (eC (.int 1))) (aCons (eVar 2) aNil)) ρ1 = .ok (.cl, if good (fs.length + 1) r = true then .str (aft (aft r)) else .non) := by
      refine eCall_ok (es := [(.cl, .int ((fs.length + 1 : Nat) : Int)), (.cl, .str r)]) (aCons_ok ?_ (aCons_ok rfl rfl)) rfl rfl (e_payload (fs.length + 1) r (by omega) (hr r List.mem_cons_self)) ?_
      · refine op2_ok (op1_ok (k1 := .pk) (x := .lst (fs.map D.str)) rfl rfl) rfl ?_
        rw [List.length_map]
        rfl
      · split <;> rfl
    have hg : gNm 2 (.str r) [some (false, .str s), some (true, .lst (fs.map D.str)), a, b] = some ρ1 := rfl
    rw [List.map_cons]
    by_cases q : good (fs.length + 1) r = true
    · rw [if_pos q] at hc
      let ρ2 : Ro := [some (false, .str s), some (true, .lst (fs.map D.str)), some (false, .str r), some (false, .str (aft (aft r)))]
      let ρ3 : Ro := [some (false, .str s), some (true, .lst ((fs ++ [aft (aft r)]).map D.str)), some (false, .str r), some (false, .str (aft (aft r)))]
      have ih := e_loop s rs (fs ++ [aft (aft r)]) (some (false, .str r)) (some (false, .str (aft (aft r)))) (fun x hx => hr x (List.mem_cons_of_mem _ hx)) (by rw [List.length_append, List.length_singleton]; omega)
      have e1 : pin (fs.length + 1) (r :: rs) = aft (aft r) :: pin (fs.length + 1 + 1) rs := if_pos q
      rw [e1]
      rw [List.length_append, List.length_singleton, List.append_assoc] at ih
      refine Eq.trans ?_ ih
      have hA : sSet 3 (eCall (F_payload_in) 2 (aCons (op2 gAdd (op1 gLen (eVar 1)) (eC (.int 1))) (aCons (eVar 2) (aNil)))) ρ1 = .nx ρ2 := sSet_c hc
      have hB : sIf (tE' (eIsN false (eVar 3))) (sRetV 1) sSkip ρ2 = .nx ρ2 := rfl
      have hC : sApp 1 (eVar 3) ρ2 = .nx ρ3 := by
        rw [sApp_ok (ds := fs.map D.str) (e := (.cl, .str (aft (aft r)))) rfl rfl rfl (by rw [List.length_map]; omega)]
        show SRes.nx [some (false, .str s), some (true, .lst (fs.map D.str ++ [D.str (aft (aft r))])), some (false, .str r), some (false, .str (aft (aft r)))] = SRes.nx [some (false, .str s), some (true, .lst ((fs ++ [aft (aft r)]).map D.str)), some (false, .str r), some (false, .str (aft (aft r)))]
        rw [List.map_append]
        rfl
      have hb := sSeq_n hA (sSeq_n hB hC)
      unfold sSeq at hb ⊢
      rw [forL_n hg hb rfl]
    · rw [if_neg q] at hc
      let ρ2 : Ro := [some (false, .str s), some (true, .lst (fs.map D.str)), some (false, .str r), some (false, .non)]
      have e1 : pin (fs.length + 1) (r :: rs) = [] := if_neg q
      rw [e1, List.append_nil]
      exact sSeq_r (forL_r hg (sSeq_n (ρ1 := ρ2) (sSet_c hc) (sSeq_r rfl)))
theorem e_payloads (s : List Nat) (h : s.length ≤ 15000000) : F_payloads_in [.str s] = .ok (.fr, .lst ((pin 1 (rows s)).map D.str)) := by
  have hs := rows_sm h
  refine fn_ok rfl rfl (s := .rt (.fr, .lst ((pin 1 (rows s)).map D.str))) ?_ rfl
  have hl := e_loop s (rows s) [] none none (fun r hr => Nat.le_trans (hs.2 r hr) (by decide)) (by rw [List.length_nil]; omega)
  unfold B_payloads_in
  refine sSeq_n (ρ1 := [some (false, .str s), some (true, .lst []), none, none]) rfl ?_
  refine Eq.trans ?_ hl
  have hi := split_rows (ρ := [some (false, .str s), some (true, .lst []), none, none]) (fa := eVar 0) (k := .cl) (s := s) rfl (Nat.le_trans h (by decide))
  unfold sSeq
  rw [sFor_ok hi rfl]
  rfl
end PL
set_option Elab.async false
set_option linter.all false
set_option maxRecDepth 100000
set_option maxHeartbeats 4000000
/-! Mk62c: the law's own defs. -/
namespace PL
open PySem PySem.Spec L2

theorem iRng_ok {ρ : Ro} {fa : EF} {k : Kd} {n : Nat} (ha : fa ρ = .ok (k, .int n)) (h : n < 2 ^ 60) : iRng fa ρ = .ok (false, (List.range' 0 n).map fun k : Nat => D.int k) := by
  unfold iRng
  rw [ha, R.bind_ok]
  have q : -(2 ^ 62) ≤ (n : Int) ∧ (n : Int) < 2 ^ 62 := by omega
  show (if -(2 ^ 62) ≤ (n : Int) ∧ (n : Int) < 2 ^ 62 then _ else _) = _
  rw [if_pos q, Int.toNat_natCast, List.range_eq_range']
  exact congrArg (fun z => R.ok (false, z)) (List.map_congr_left fun k _ => by rw [Int.zero_add])

/-! ### the law's check -/
theorem e_lchk_loop (x : List Nat) (hx : x.length ≤ 16777216) : ∀ (m i t : Nat) (a : Sl), i + m = x.length →
    ∃ b, forL (gNm 2) (sSet 1 (op2 gAdd (eVar 1) (op2 gMulI (op2 gAdd (eVar 2) (eC (.int 1))) (op1 gOrd (op2 gIx (eVar 0) (eVar 2)))))) ((List.range' i m).map fun k : Nat => D.int k) [some (false, .str x), some (false, .int t), a]
      = .nx [some (false, .str x), some (false, .int ((t + chs i (x.drop i) : Nat) : Int)), b]
  | 0, i, t, a, h => ⟨a, by
    rw [List.drop_eq_nil_of_le (by omega)]
    rfl⟩
  | m + 1, i, t, a, h => by
    have hi : i < x.length := by omega
    obtain ⟨b, hb⟩ := e_lchk_loop x hx m (i + 1) (t + (i + 1) * x[i]) (some (false, .int i)) (by omega)
    refine ⟨b, ?_⟩
    rw [List.range'_succ, List.map_cons]
    refine forL_n (ρ1 := [some (false, .str x), some (false, .int t), some (false, .int i)]) (ρ2 := [some (false, .str x), some (false, .int ((t + (i + 1) * x[i] : Nat) : Int)), some (false, .int i)]) rfl ?_ ?_
    · rw [sSet_c (d := .int ((t + (i + 1) * x[i] : Nat) : Int))]
      · rfl
      · refine op2_ok (k1 := .cl) (x := .int t) (k2 := .cl) (y := .int (((i : Int) + 1) * (x[i] : Int))) rfl ?_ ?_
        · refine op2_ok (k1 := .cl) (x := .int ((i : Int) + 1)) (k2 := .cl) (y := .int (x[i] : Int)) (op2_ok (k1 := .cl) (x := .int i) (k2 := .cl) (y := .int 1) rfl rfl gAdd_i) ?_ (gMul_i' (by omega))
          refine op1_ok (k1 := .cl) (x := .str [x[i]]) ?_ rfl
          exact op2_ok (k1 := .cl) (x := .str x) (k2 := .cl) (y := .int i) rfl rfl (gIx_s hx (List.getElem?_eq_getElem hi))
        · rw [gAdd_i, Int.natCast_add, Int.natCast_mul]
          rfl
    · rw [hb, List.drop_eq_getElem_cons hi]
      show _ = SRes.nx [some (false, .str x), some (false, .int ((t + ((i + 1) * x[i] + chs (i + 1) (x.drop (i + 1))) : Nat) : Int)), b]
      rw [Nat.add_assoc]
theorem e_lchk (x : List Nat) (h : x.length ≤ 16000000) : F__law_check_of [.str x] = .ok (.cl, .int (chk x : Nat)) := by
  refine fn_ok (ρ0 := [some (false, .str x), none, none]) (s := .rt (.cl, .int (chk x : Nat))) rfl rfl ?_ rfl
  unfold B__law_check_of
  obtain ⟨b, hb⟩ := e_lchk_loop x (by omega) x.length 0 0 none (by omega)
  refine sSeq_n (ρ1 := [some (false, .str x), some (false, .int 0), none]) rfl ?_
  refine sSeq_n (sFor_ok (iRng_ok (k := .cl) (n := x.length) (op1_ok (k1 := .cl) (x := .str x) rfl (gLen_s (by omega))) (by omega)) hb) ?_
  refine sRet_ok (op2_ok (k1 := .cl) (x := .int ((0 + chs 0 (x.drop 0) : Nat) : Int)) (k2 := .cl) (y := .int 977) rfl rfl ?_)
  rw [gMod_i (by decide), Nat.zero_add, List.drop_zero]
  rfl

/-! ### the law's records -/
theorem e_lrecord (n : Nat) (p : List Nat) (hn : n < 2 ^ 64) (hp : p.length ≤ 15000000) : F__law_record [.int n, .str p] = .ok (.cl, .str (recd n p)) := by
  have h1 := chk_len p
  have h2 := num_len hn
  let ρ : Ro := [some (false, .int n), some (false, .str p)]
  have a0 : op1 gStr (eVar 0) ρ = .ok (.cl, .str (TL.numL n)) := op1_ok (k1 := .cl) (x := .int n) rfl (gStr_ok hn)
  have c1 : eC (.str [44]) ρ = .ok (.cl, .str [44]) := rfl
  have c2 : eC (.str [10]) ρ = .ok (.cl, .str [10]) := rfl
  have vp : eVar 1 ρ = .ok (.cl, .str p) := rfl
  have a1 := op2_ok (g := gAdd) a0 c1 (gAdd_s (by simp only [List.length_cons, List.length_nil]; omega))
  have a2 : op1 gStr (eCall F__law_check_of 1 (aCons (eVar 1) aNil)) ρ = .ok (.cl, .str (TL.numL (chk p))) := op1_ok (eCall_ok (aCons_ok vp rfl) rfl rfl (e_lchk p (by omega)) rfl) (gStr_ok (lt64 (chk_lt p)))
  have a3 := op2_ok (g := gAdd) a1 a2 (gAdd_s (by simp only [List.length_append, List.length_cons, List.length_nil]; omega))
  have a4 := op2_ok (g := gAdd) a3 c1 (gAdd_s (by simp only [List.length_append, List.length_cons, List.length_nil]; omega))
  have a5 := op2_ok (g := gAdd) a4 vp (gAdd_s (by simp only [List.length_append, List.length_cons, List.length_nil]; omega))
  have a6 := op2_ok (g := gAdd) a5 c2 (gAdd_s (by simp only [List.length_append, List.length_cons, List.length_nil]; omega))
  have hz : (TL.numL n ++ [44] ++ TL.numL (chk p) ++ [44] ++ p ++ [10] : List Nat) = recd n p := by
    unfold recd
    simp only [List.append_assoc, List.cons_append, List.nil_append]
  rw [hz] at a6
  exact fn_ok rfl rfl (sRet_ok a6) rfl
theorem recs_range : ∀ (ps : List (List Nat)) (k : Nat) (qs : List (List Nat)), (∀ i, i < ps.length → qs[k + i]? = ps[i]?) → (List.range' k ps.length).map (fun i => recd (i + 1) (qs.getD i [])) = recs k ps
  | [], _, _, _ => rfl
  | p :: r, k, qs, h => by
    rw [List.length_cons, List.range'_succ, List.map_cons, recs_range r (k + 1) qs fun i hi => by
      have := h (i + 1) (by rw [List.length_cons]; omega)
      rw [List.getElem?_cons_succ] at this
      rw [← this, Nat.add_assoc, Nat.add_comm 1 i]]
    have h0 := h 0 (by rw [List.length_cons]; omega)
    rw [Nat.add_zero, List.getElem?_cons_zero] at h0
    show recd (k + 1) (qs.getD k []) :: _ = recd (k + 1) p :: _
    rw [List.getD_eq_getElem?_getD, h0]
    rfl
theorem e_ljournal (ps : List (List Nat)) (h : Sm 100 20100 ps) : F__law_journal [.lst (ps.map .str)] = .ok (.cl, .str (jour ps)) := by
  have hs := h.1
  refine fn_ok (ρ0 := [some (false, .lst (ps.map .str)), none]) (s := .rt (.cl, .str (jour ps))) rfl rfl ?_ rfl
  unfold B__law_journal
  refine sRet_ok (mth1_ok (k1 := .cl) (a := []) (k2 := .fr) (y := .lst ((recs 0 ps).map D.str)) rfl (lcF_ok (p := (false, (List.range' 0 ps.length).map fun k : Nat => D.int k)) (ys := (recs 0 ps).map D.str) ?_ ?_ ?_) ?_)
  · refine iRng_ok (k := .cl) (op1_ok (k1 := .cl) (x := .lst (ps.map .str)) rfl ?_) (by omega)
    show R.ok (Kd.cl, D.int ((ps.map D.str).length : Nat)) = _
    rw [List.length_map]
  · rw [List.length_map, List.length_range']; omega
  · rw [lcA_map (g := fun k => D.str (recd (k + 1) (ps.getD k [])))]
    · rw [← recs_range ps 0 ps (fun i _ => by rw [Nat.zero_add]), List.map_map]
      rfl
    · intro k hk
      have hk := (List.mem_range'_1.mp hk).2
      have hk : k < ps.length := by omega
      have hl := h.2 _ (List.getElem_mem hk)
      have hg : ps.getD k [] = ps[k] := by rw [List.getD_eq_getElem?_getD, List.getElem?_eq_getElem hk]; rfl
      rw [hg]
      refine turn_ok (ρ1 := [some (false, .lst (ps.map .str)), some (false, .int k)]) rfl rfl (e := (.cl, .str (recd (k + 1) ps[k]))) ?_ rfl
      refine eCall_ok (es := [(.cl, .int ((k + 1 : Nat) : Int)), (.cl, .str ps[k])]) (aCons_ok (op2_ok (k1 := .cl) (x := .int k) (k2 := .cl) (y := .int 1) rfl rfl gAdd_i) (aCons_ok ?_ rfl)) rfl rfl (e_lrecord (k + 1) ps[k] (by omega) (by omega)) rfl
      exact op2_ok (k1 := .cl) (x := .lst (ps.map .str)) (k2 := .cl) (y := .int k) rfl rfl (gIx_l (by rw [List.getElem?_map, List.getElem?_eq_getElem hk]; rfl))
  · rw [gJoin_l (recs_fit h), joinL_nil]
    rfl

/-! ### the law's reading -/
theorem join_spl (s : Nat) : ∀ (l acc : List Nat), TL.joinL [s] (TL.spl [s] 0 acc l) = acc ++ l
  | [], acc => by rw [TL.spl_nil, List.append_nil]; rfl
  | c :: r, acc => by
    by_cases h : c = s
    · subst h
      rw [spl1_hit]
      have ih := join_spl c r []
      cases e : TL.spl [c] 0 [] r with
      | nil => exact absurd e (spl1_ne c r [])
      | cons p q =>
        rw [e] at ih
        show acc ++ ([c] ++ TL.joinL [c] (p :: q)) = _
        rw [ih]
        rfl
    · rw [spl1_miss _ _ h, join_spl s r, List.append_assoc]
      rfl
theorem join_words (row : List Nat) : TL.joinL [44] ((TL.spl [44] 0 [] row).drop 2) = aft (aft row) := by
  rcases cut44 row with h | ⟨a, b, e, n⟩
  · rw [aft_none h, aft_none List.not_mem_nil, TL.spl_last1 h]
    rfl
  · subst e
    rw [aft_some b n, spl1_row n]
    rcases cut44 b with h | ⟨c, d, e, n2⟩
    · rw [aft_none h, TL.spl_last1 h]
      rfl
    · subst e
      rw [aft_some d n2, spl1_row n2, List.drop_succ_cons, List.drop_succ_cons, List.drop_zero, join_spl]
      rfl
theorem few_words {row : List Nat} {n : Nat} (h : (TL.spl [44] 0 [] row).length < 3) (p : List Nat) : (recd n p == row ++ [10]) = false := by
  rw [beq_eq_false_iff_ne]
  intro e
  have e2 : row = TL.numL n ++ 44 :: (TL.numL (chk p) ++ 44 :: p) := by
    have : (TL.numL n ++ 44 :: (TL.numL (chk p) ++ 44 :: p)) ++ [10] = row ++ [10] := by
      rw [← e]
      unfold recd
      simp only [List.append_assoc, List.cons_append]
    exact (List.append_cancel_right this).symm
  rw [e2, spl1_row (TL.numL_free (by omega)), spl1_row (TL.numL_free (by omega))] at h
  have := List.length_pos_iff.mpr (spl1_ne 44 p [])
  simp only [List.length_cons] at h
  omega
theorem bad_count (p : List Nat) : decide ((0 : Int) < ((p.filter fun c => !prc c).length : Int)) = !prn p := by
  cases h : prn p with
  | true =>
    have : p.filter (fun c => !prc c) = [] := by
      rw [List.filter_eq_nil_iff]
      intro c hc
      have := List.all_eq_true.mp h c hc
      simp [this]
    rw [this]
    rfl
  | false =>
    have : 0 < (p.filter fun c => !prc c).length := by
      rw [List.length_pos_iff]
      intro z
      rw [List.filter_eq_nil_iff] at z
      have : prn p = true := List.all_eq_true.mpr fun c hc => by
        have := z c hc
        simpa using this
      rw [this] at h
      cases h
    rw [decide_eq_true (by omega)]
    rfl
theorem gLt_1 (a b : Nat) : gLt (.str [a]) (.str [b]) = .ok (.cl, .bl (decide (a < b))) := by
  show R.ok (Kd.cl, D.bl (decide ([a] < [b]))) = _
  rw [lt1]
theorem gGt_1 (a b : Nat) : gGt (.str [a]) (.str [b]) = .ok (.cl, .bl (decide (b < a))) := by
  show R.ok (Kd.cl, D.bl (decide ([b] < [a]))) = _
  rw [lt1]
theorem prc_not (c : Nat) : (decide (c < 32) || decide (126 < c)) = !prc c := by
  unfold prc
  rw [Bool.not_and, ← decide_not, ← decide_not]
  congr 1 <;> exact decide_eq_decide.mpr Nat.not_le.symm
def lbody : SF :=
    sSeq (sSet 3 (mth1 gSplit (eVar 2) (eC (.str [44])))) <|
    sSeq (sSet 4 (mth1 gJoin (eC (.str [44])) (eSl (eVar 3) (oSome (eC (.int 2))) (oNo)))) <|
    sSeq (sSet 5 (op1 gLen (lcF (iVal (eVar 4)) [6] (gNm 6) (tOrF (t2 gLt (eVar 6) (eC (.str [32]))) (t2 gGt (eVar 6) (eC (.str [126])))) (eVar 6)))) <|
    sSeq (sIf (tOrF (t2 gLt (op1 gLen (eVar 3)) (eC (.int 3))) (tOrF (t2 gGt (eVar 5) (eC (.int 0))) (tOrF (t2 gGt (op1 gLen (eVar 4)) (eC (.int 20010))) (t2 gNe (eCall (F__law_record) 2 (aCons (op2 gAdd (op1 gLen (eVar 1)) (eC (.int 1))) (aCons (eVar 4) (aNil)))) (op2 gAdd (eVar 2) (eC (.str [10]))))))) (sRetV 1) (sSkip)) <|
    sApp 1 (eVar 4)
theorem B_lrecords : B__law_records = sSeq (sSet 1 (disp (fun ds => (.fr, .lst ds)) (aNil))) (sSeq (sFor (iVal (eSl (mth1 gSplit (eVar 0) (eC (.str [10]))) (oNo) (oSome (eNeg (eC (.int 1)))))) (gNm 2) lbody) (sRetV 1)) := rfl
theorem join_fit (row : List Nat) (h : row.length ≤ 5000000) : joinSize [44] ((TL.spl [44] 0 [] row).drop 2) ≤ 16777216 := by
  have key : ∀ (l acc : List Nat), ((TL.spl [44] 0 acc l).map List.length).sum + (TL.spl [44] 0 acc l).length ≤ acc.length + 2 * l.length + 1 := by
    intro l
    induction l with
    | nil => intro acc; rw [TL.spl_nil]; simp
    | cons c r ih =>
      intro acc
      by_cases e : c = 44
      · subst e
        rw [spl1_hit, List.map_cons, List.sum_cons, List.length_cons, List.length_cons]
        have := ih []
        simp only [List.length_nil] at this
        omega
      · rw [spl1_miss _ _ e, List.length_cons]
        have := ih (acc ++ [c])
        rw [List.length_append, List.length_singleton] at this
        omega
  have k1 := key row []
  have k2 : ∀ (l : List (List Nat)), ((l.drop 2).map List.length).sum + (l.drop 2).length ≤ (l.map List.length).sum + l.length := by
    intro l
    cases l with
    | nil => exact Nat.le_refl _
    | cons a l =>
      cases l with
      | nil => exact Nat.zero_le _
      | cons b l =>
        show (l.map List.length).sum + l.length ≤ _
        simp only [List.map_cons, List.sum_cons, List.length_cons]
        omega
  have k3 := k2 (TL.spl [44] 0 [] row)
  unfold joinSize
  simp only [List.length_nil, List.length_cons, Nat.zero_add, Nat.mul_one] at *
  omega
theorem l_turn (s r : List Nat) (fs : List (List Nat)) (a b c d e : Sl) (hr : r.length ≤ 5000000) (hl : fs.length < 5000000) :
    ∃ c' d' : Sl, lbody [some (false, .str s), some (true, .lst (fs.map D.str)), some (false, .str r), b, c, d, e] =
      if good (fs.length + 1) r = true then .nx [some (false, .str s), some (true, .lst ((fs ++ [aft (aft r)]).map D.str)), some (false, .str r), c', some (false, .str (aft (aft r))), d', e] else .rt (.fr, .lst (fs.map D.str)) := by
  have l1 := aft_len r
  have l2 := aft_len (aft r)
  let ws := TL.spl [44] 0 [] r
  have jw : TL.joinL [44] (ws.drop 2) = aft (aft r) := join_words r
  generalize hp : aft (aft r) = p at jw l2
  refine ⟨some (true, .lst (ws.map D.str)), some (false, .int ((p.filter fun c => !prc c).length : Nat)), ?_⟩
  let ρ1 : Ro := [some (false, .str s), some (true, .lst (fs.map D.str)), some (false, .str r), some (true, .lst (ws.map D.str)), c, d, e]
  let ρ2 : Ro := [some (false, .str s), some (true, .lst (fs.map D.str)), some (false, .str r), some (true, .lst (ws.map D.str)), some (false, .str p), d, e]
  let ρ3 : Ro := [some (false, .str s), some (true, .lst (fs.map D.str)), some (false, .str r), some (true, .lst (ws.map D.str)), some (false, .str p), some (false, .int ((p.filter fun c => !prc c).length : Nat)), e]
  unfold lbody
  refine sSeq_n (ρ1 := ρ1) (sSet_f (mth1_ok (k1 := .cl) (a := r) (k2 := .cl) (y := .str [44]) rfl rfl (gSplit_ok (by omega) (by decide) (by decide))) (by show 3 < 7; decide)) ?_
  refine sSeq_n (ρ1 := ρ2) (sSet_c (d := .str p) (mth1_ok (k1 := .cl) (a := [44]) (k2 := .fr) (y := .lst ((ws.drop 2).map D.str)) rfl ?_ ?_)) ?_
  · show R.ok (Kd.fr, D.lst (cutL (ws.map D.str) (some ((2 : Nat) : Int)) none)) = _
    rw [cut_from, List.map_drop]
  · rw [gJoin_l (join_fit r hr), jw]
  refine sSeq_n (ρ1 := ρ3) (sSet_c (d := .int ((p.filter fun c => !prc c).length : Nat)) (op1_ok (k1 := .fr) (x := .lst ((p.filter fun c => !prc c).map fun c => D.str [c])) (lcF_ok (p := (false, p.map fun c => D.str [c])) rfl ?_ ?_) ?_)) ?_
  · rw [List.length_map]; omega
  · refine lcA_sift fun c hc => ?_
    have t : tOrF (t2 gLt (eVar 6) (eC (.str [32]))) (t2 gGt (eVar 6) (eC (.str [126]))) [some (false, .str s), some (true, .lst (fs.map D.str)), some (false, .str r), some (true, .lst (ws.map D.str)), some (false, .str p), d, some (false, .str [c])] = .ok (!prc c) := by
      rw [← prc_not]
      exact tOr_ok (t2_ok (k1 := .cl) (x := .str [c]) (k2 := .cl) (y := .str [32]) rfl rfl (gLt_1 c 32)) (t2_ok (k1 := .cl) (x := .str [c]) (k2 := .cl) (y := .str [126]) rfl rfl (gGt_1 c 126))
    cases q : prc c with
    | true => rw [q] at t; exact turn_no (ρ1 := _) rfl t
    | false => rw [q] at t; exact turn_ok (ρ1 := _) rfl t (e := (.cl, .str [c])) rfl rfl
  · show R.ok (Kd.cl, D.int (((p.filter fun c => !prc c).map fun c => D.str [c]).length : Nat)) = _
    rw [List.length_map]
  have t1 : t2 gLt (op1 gLen (eVar 3)) (eC (.int 3)) ρ3 = .ok (decide ((ws.length : Int) < 3)) := t2_ok (k := .cl) (op1_ok (k1 := .pk) (x := .lst (ws.map D.str)) rfl rfl) rfl (by rw [List.length_map]; rfl)
  have t2' : t2 gGt (eVar 5) (eC (.int 0)) ρ3 = .ok (!prn p) := by
    rw [← bad_count]
    exact t2_ok (k1 := .cl) (x := .int ((p.filter fun c => !prc c).length : Nat)) (k2 := .cl) (y := .int 0) rfl rfl rfl
  have t3 : t2 gGt (op1 gLen (eVar 4)) (eC (.int 20010)) ρ3 = .ok (decide ((20010 : Int) < (p.length : Int))) := t2_ok (op1_ok (k1 := .cl) (x := .str p) rfl (gLen_s (by omega))) rfl rfl
  have hrec : eCall F__law_record 2 (aCons (op2 gAdd (op1 gLen (eVar 1)) (eC (.int 1))) (aCons (eVar 4) aNil)) ρ3 = .ok (.cl, .str (recd (fs.length + 1) p)) := by
    refine eCall_ok (es := [(.cl, .int ((fs.length + 1 : Nat) : Int)), (.cl, .str p)]) (aCons_ok (op2_ok (op1_ok (k1 := .pk) (x := .lst (fs.map D.str)) rfl rfl) rfl ?_) (aCons_ok rfl rfl)) rfl rfl (e_lrecord (fs.length + 1) p (by omega) (by omega)) rfl
    rw [List.length_map]
    rfl
  have hadd : op2 gAdd (eVar 2) (eC (.str [10])) ρ3 = .ok (.cl, .str (r ++ [10])) := op2_ok (k1 := .cl) (k2 := .cl) (x := .str r) (y := .str [10]) rfl rfl (gAdd_s (by simp only [List.length_cons, List.length_nil]; omega))
  have t4 := t2_ok (g := gNe) hrec hadd gNe_s
  have tt := tOr_ok t1 (tOr_ok t2' (tOr_ok t3 t4))
  have eg : (decide ((ws.length : Int) < 3) || (!prn p || (decide ((20010 : Int) < (p.length : Int)) || !(recd (fs.length + 1) p == r ++ [10])))) = !good (fs.length + 1) r := by
    unfold good
    rw [hp]
    by_cases hw : ws.length < 3
    · rw [few_words hw, Bool.and_false, decide_eq_true (by omega)]
      rfl
    · rw [decide_eq_false (by omega), Bool.false_or]
      have : decide ((20010 : Int) < (p.length : Int)) = !decide (p.length ≤ 20010) := by
        rw [← decide_not]
        exact decide_eq_decide.mpr (by omega)
      rw [this]
      cases prn p <;> cases decide (p.length ≤ 20010) <;> rfl
  rw [eg] at tt
  by_cases q : good (fs.length + 1) r = true
  · rw [if_pos q]
    rw [q] at tt
    refine sSeq_n (ρ1 := ρ3) (sIf_f tt rfl) ?_
    rw [sApp_ok (ds := fs.map D.str) (e := (.cl, .str p)) rfl rfl rfl (by rw [List.length_map]; omega)]
    show SRes.nx [some (false, .str s), some (true, .lst (fs.map D.str ++ [D.str p])), some (false, .str r), some (true, .lst (ws.map D.str)), some (false, .str p), _, e] = SRes.nx [some (false, .str s), some (true, .lst ((fs ++ [p]).map D.str)), some (false, .str r), some (true, .lst (ws.map D.str)), some (false, .str p), _, e]
    rw [List.map_append]
    rfl
  · rw [if_neg q]
    rw [Bool.not_eq_true] at q
    rw [q] at tt
    exact sSeq_r (sIf_t tt rfl)
theorem l_loop (s : List Nat) : ∀ (rs fs : List (List Nat)) (a b c d e : Sl), (∀ r ∈ rs, r.length ≤ 5000000) → fs.length + rs.length ≤ 5000000 →
    sSeq (forL (gNm 2) lbody (rs.map D.str)) (sRetV 1) [some (false, .str s), some (true, .lst (fs.map D.str)), a, b, c, d, e] = .rt (.fr, .lst ((fs ++ pin (fs.length + 1) rs).map D.str))
  | [], fs, a, b, c, d, e, _, _ => by
    rw [show pin (fs.length + 1) [] = [] from rfl, List.append_nil]
    exact sSeq_n (ρ1 := [some (false, .str s), some (true, .lst (fs.map D.str)), a, b, c, d, e]) rfl rfl
  | r :: rs, fs, a, b, c, d, e, hr, hl => by
    rw [List.length_cons] at hl
    obtain ⟨c', d', ht⟩ := l_turn s r fs a b c d e (hr r List.mem_cons_self) (by omega)
    have hg : gNm 2 (.str r) [some (false, .str s), some (true, .lst (fs.map D.str)), a, b, c, d, e] = some [some (false, .str s), some (true, .lst (fs.map D.str)), some (false, .str r), b, c, d, e] := rfl
    rw [List.map_cons]
    by_cases q : good (fs.length + 1) r = true
    · rw [if_pos q] at ht
      have ih := l_loop s rs (fs ++ [aft (aft r)]) (some (false, .str r)) c' (some (false, .str (aft (aft r)))) d' e (fun x hx => hr x (List.mem_cons_of_mem _ hx)) (by rw [List.length_append, List.length_singleton]; omega)
      have e1 : pin (fs.length + 1) (r :: rs) = aft (aft r) :: pin (fs.length + 1 + 1) rs := if_pos q
      rw [e1]
      rw [List.length_append, List.length_singleton, List.append_assoc] at ih
      refine Eq.trans ?_ ih
      unfold sSeq
      rw [forL_n hg ht rfl]
    · rw [if_neg q] at ht
      have e1 : pin (fs.length + 1) (r :: rs) = [] := if_neg q
      rw [e1, List.append_nil]
      exact sSeq_r (forL_r hg ht)
theorem e_lrecords (s : List Nat) (h : s.length ≤ 4000000) : F__law_records [.str s] = .ok (.fr, .lst ((pin 1 (rows s)).map D.str)) := by
  have hs := rows_sm h
  refine fn_ok (ρ0 := [some (false, .str s), none, none, none, none, none, none]) (s := .rt (.fr, .lst ((pin 1 (rows s)).map D.str))) rfl rfl ?_ rfl
  have hl := l_loop s (rows s) [] none none none none none (fun r hr => Nat.le_trans (hs.2 r hr) (by decide)) (by rw [List.length_nil]; omega)
  rw [B_lrecords]
  refine sSeq_n (ρ1 := [some (false, .str s), some (true, .lst []), none, none, none, none, none]) rfl ?_
  refine Eq.trans ?_ hl
  have hi := split_rows (ρ := [some (false, .str s), some (true, .lst []), none, none, none, none, none]) (fa := eVar 0) (k := .cl) (s := s) rfl (Nat.le_trans h (by decide))
  unfold sSeq
  rw [sFor_ok hi rfl]
  rfl
end PL
set_option Elab.async false
set_option linter.all false
set_option maxRecDepth 100000
set_option maxHeartbeats 4000000
/-! Mk62d: same, the draws. -/
namespace PL
open PySem PySem.Spec L2

/-! ### same -/
theorem isi_ok {ρ : Ro} {fa : EF} {k : Kd} {d : D} {n : String} {b : Bool} (ha : fa ρ = .ok (k, d)) (h : inst n d = b) : tVal (eIsi n fa) ρ = .ok b := by
  subst h
  exact tVal_b (op1_ok ha rfl)
theorem isiE {ρ : Ro} {fa : EF} {k : Kd} {d : D} {n : String} {b : Bool} (ha : fa ρ = .ok (k, d)) (h : inst n d = b) : eIsi n fa ρ = .ok (.cl, .bl b) := by
  subst h
  exact op1_ok ha rfl
theorem isnT {ρ : Ro} {fa : EF} {k : Kd} {d : D} {b : Bool} (ha : fa ρ = .ok (k, d)) (h : isN d = b) : tE' (eIsN false fa) ρ = .ok b := by
  subst h
  unfold tE'
  rw [show eIsN false fa ρ = .ok (.cl, .bl (isN d)) from op1_ok ha rfl]
  rfl
theorem eAnd_t {ρ : Ro} {fa fb : EF} {k : Kd} {q : R Ev} (ha : fa ρ = .ok (k, .bl true)) (hb : fb ρ = q) : eAnd fa fb ρ = q := by
  unfold eAnd
  rw [ha, R.bind_ok]
  show (if true = true then fb ρ else R.ok (k, D.bl true)) = q
  rw [if_pos rfl, hb]
theorem eNot_b {ρ : Ro} {fa : EF} {k : Kd} {b : Bool} (ha : fa ρ = .ok (k, .bl b)) : eNot fa ρ = .ok (.cl, .bl (!b)) := by
  unfold eNot
  rw [ha, R.bind_ok]
  rfl
section
variable {G : FD}
theorem same_str (x : List Nat) : fnD 3 2 (B__law_same G) [.str x, .str x] = .ok (.cl, .bl true) := by
  let ρ : Ro := [some (false, .str x), some (false, .str x), none]
  refine fn_ok (ρ0 := ρ) (s := .rt (.cl, .bl true)) rfl rfl ?_ rfl
  have v0 : eVar 0 ρ = .ok (.cl, .str x) := rfl
  have v1 : eVar 1 ρ = .ok (.cl, .str x) := rfl
  unfold B__law_same
  refine sSeq_r (sIf_f (isi_ok v1 rfl) (sIf_f (isi_ok v1 rfl) (sIf_f (isnT v1 rfl) (sIf_f (isi_ok v1 rfl) (sIf_f (isi_ok v1 rfl) (sRet_ok (eAnd_t (isiE v0 rfl) ?_)))))))
  refine op2_ok v0 v1 ?_
  rw [gEq_s, beq_self_eq_true]
theorem same_int (x : Int) : fnD 3 2 (B__law_same G) [.int x, .int x] = .ok (.cl, .bl true) := by
  let ρ : Ro := [some (false, .int x), some (false, .int x), none]
  refine fn_ok (ρ0 := ρ) (s := .rt (.cl, .bl true)) rfl rfl ?_ rfl
  have v0 : eVar 0 ρ = .ok (.cl, .int x) := rfl
  have v1 : eVar 1 ρ = .ok (.cl, .int x) := rfl
  unfold B__law_same
  refine sSeq_r (sIf_f (isi_ok v1 rfl) (sIf_f (isi_ok v1 rfl) (sIf_f (isnT v1 rfl) (sIf_f (isi_ok v1 rfl) (sIf_t (isi_ok v1 rfl) (sRet_ok (eAnd_t (isiE v0 rfl) (eAnd_t (eNot_b (isiE v0 rfl)) ?_))))))))
  refine op2_ok v0 v1 ?_
  rw [gEq_i, beq_self_eq_true]
theorem same_loop (xs : List D) (h : ∀ d ∈ xs, G [d, d] = .ok (.cl, .bl true)) : ∀ (m i : Nat) (a : Sl), i + m = xs.length →
    ∃ b, forL (gNm 2) (sIf (tNotF (tVal (eCall (G) 2 (aCons (op2 gIx (eVar 0) (eVar 2)) (aCons (op2 gIx (eVar 1) (eVar 2)) (aNil)))))) (sRet (eC (.bl false))) (sSkip)) ((List.range' i m).map fun k : Nat => D.int k) [some (false, .lst xs), some (false, .lst xs), a]
      = .nx [some (false, .lst xs), some (false, .lst xs), b]
  | 0, i, a, _ => ⟨a, rfl⟩
  | m + 1, i, a, hi => by
    have hl : i < xs.length := by omega
    obtain ⟨b, hb⟩ := same_loop xs h m (i + 1) (some (false, .int i)) (by omega)
    refine ⟨b, ?_⟩
    rw [List.range'_succ, List.map_cons]
    let ρ : Ro := [some (false, .lst xs), some (false, .lst xs), some (false, .int i)]
    have x0 : op2 gIx (eVar 0) (eVar 2) ρ = .ok (.cl, xs[i]) := op2_ok (k1 := .cl) (x := .lst xs) (k2 := .cl) (y := .int i) rfl rfl (gIx_l (List.getElem?_eq_getElem hl))
    have x1 : op2 gIx (eVar 1) (eVar 2) ρ = .ok (.cl, xs[i]) := op2_ok (k1 := .cl) (x := .lst xs) (k2 := .cl) (y := .int i) rfl rfl (gIx_l (List.getElem?_eq_getElem hl))
    refine forL_n (ρ1 := ρ) (ρ2 := ρ) rfl (sIf_f (tNot_ok (b := true) (tVal_b (eCall_ok (aCons_ok x0 (aCons_ok x1 rfl)) rfl rfl (h _ (List.getElem_mem hl)) rfl))) rfl) hb
theorem same_lst (xs : List D) (hx : xs.length < 2 ^ 60) (h : ∀ d ∈ xs, G [d, d] = .ok (.cl, .bl true)) : fnD 3 2 (B__law_same G) [.lst xs, .lst xs] = .ok (.cl, .bl true) := by
  let ρ : Ro := [some (false, .lst xs), some (false, .lst xs), none]
  refine fn_ok (ρ0 := ρ) (s := .rt (.cl, .bl true)) rfl rfl ?_ rfl
  have v0 : eVar 0 ρ = .ok (.cl, .lst xs) := rfl
  have v1 : eVar 1 ρ = .ok (.cl, .lst xs) := rfl
  have l0 : op1 gLen (eVar 0) ρ = .ok (.cl, .int (xs.length : Nat)) := op1_ok v0 rfl
  have l1 : op1 gLen (eVar 1) ρ = .ok (.cl, .int (xs.length : Nat)) := op1_ok v1 rfl
  have ne : t2 gNe (op1 gLen (eVar 0)) (op1 gLen (eVar 1)) ρ = .ok false := by
    have := t2_ok (g := gNe) l0 l1 gNe_i
    rw [beq_self_eq_true] at this
    exact this
  obtain ⟨b, hb⟩ := same_loop xs h xs.length 0 none (by omega)
  unfold B__law_same
  refine sSeq_n (ρ1 := ρ) (sIf_t (isi_ok v1 rfl) (sIf_f (tOr_f (tNot_ok (b := true) (isi_ok v0 rfl)) ne) rfl)) ?_
  exact sSeq_n (sFor_ok (iRng_ok l1 hx) hb) rfl
end
theorem same_strs (k : Nat) (ps : List (List Nat)) (h : ps.length < 2 ^ 60) : F__law_same (k + 2) [.lst (ps.map D.str), .lst (ps.map D.str)] = .ok (.cl, .bl true) :=
  same_lst (ps.map D.str) (by rw [List.length_map]; exact h) fun d hd => by
    obtain ⟨p, _, e⟩ := List.mem_map.mp hd
    subst e
    exact same_str p

/-! ### draws -/
theorem e_cell (ns : List Int) : ∃ z : Int, F__law_cell [.rol (ns.map D.int), .int 0] = .ok (.cl, .int z) := by
  let ρ : Ro := [some (false, .rol (ns.map D.int)), some (false, .int 0)]
  have l1 : op1 gLen (eVar 0) ρ = .ok (.cl, .int ((ns.map D.int).length : Nat)) := rfl
  rw [List.length_map] at l1
  have t : t2 gLt (eVar 1) (op1 gLen (eVar 0)) ρ = .ok (decide ((0 : Int) < (ns.length : Int))) := t2_ok (k1 := .cl) (x := .int 0) rfl l1 rfl
  cases ns with
  | nil =>
    refine ⟨0, fn_ok (ρ0 := ρ) (s := .rt (.cl, .int 0)) rfl rfl ?_ rfl⟩
    exact sSeq_n (sIf_f t rfl) rfl
  | cons z r =>
    refine ⟨z, fn_ok (ρ0 := ρ) (s := .rt (.cl, .int z)) rfl rfl ?_ rfl⟩
    have t : t2 gLt (eVar 1) (op1 gLen (eVar 0)) ρ = .ok true := by
      rw [t, decide_eq_true]
      rw [List.length_cons]; omega
    exact sSeq_r (sIf_t t (sRet_ok (op1_ok (op2_ok (k1 := .cl) (x := .rol ((z :: r).map D.int)) (k2 := .cl) (y := .int 0) rfl rfl (gIx_r (i := 0) rfl)) rfl)))
/-- numbers below a limit -/
def Bel (l : Nat) (ns : List Nat) : Prop := ∀ n ∈ ns, n < l
theorem num_loop1 (count limit : Nat) (hl : 0 < limit ∧ limit < 1073741824) : ∀ (m i : Nat) (cell : Int) (fs : List Nat) (a b : Sl), fs.length + m ≤ 16000000 → Bel limit fs →
    ∃ (ns : List Nat) (cell' : Int) (a' : Sl), forL (gNm 4) (sSeq (sApp 3 (op2 gMod (op1 gInt (eVar 0)) (eVar 2))) (sSet 0 (op2 gFdiv (op1 gInt (eVar 0)) (eVar 2)))) ((List.range' i m).map fun k : Nat => D.int k)
        [some (false, .int cell), some (false, .int count), some (false, .int limit), some (true, .lst ((fs.map fun n : Nat => (n : Int)).map D.int)), a, b]
      = .nx [some (false, .int cell'), some (false, .int count), some (false, .int limit), some (true, .lst ((ns.map fun n : Nat => (n : Int)).map D.int)), a', b] ∧ ns.length = fs.length + m ∧ Bel limit ns
  | 0, i, cell, fs, a, b, hm, hb => ⟨fs, cell, a, rfl, rfl, hb⟩
  | m + 1, i, cell, fs, a, b, hm, hb => by
    have e0 : 0 ≤ cell % (limit : Int) := Int.emod_nonneg _ (by omega)
    have e1 : cell % (limit : Int) < limit := Int.emod_lt_of_pos _ (by omega)
    obtain ⟨n, hn⟩ := Int.eq_ofNat_of_zero_le e0
    obtain ⟨ns, cell', a', h1, h2, h3⟩ := num_loop1 count limit hl m (i + 1) (cell / limit) (fs ++ [n]) (some (false, .int i)) b (by rw [List.length_append, List.length_singleton]; omega) (fun x hx => (List.mem_append.mp hx).elim (hb x) fun z => by rw [List.mem_singleton.mp z]; omega)
    refine ⟨ns, cell', a', ?_, by rw [h2, List.length_append, List.length_singleton]; omega, h3⟩
    rw [List.range'_succ, List.map_cons]
    let ρ1 : Ro := [some (false, .int cell), some (false, .int count), some (false, .int limit), some (true, .lst ((fs.map fun n : Nat => (n : Int)).map D.int)), some (false, .int i), b]
    let ρ2 : Ro := [some (false, .int cell), some (false, .int count), some (false, .int limit), some (true, .lst (((fs ++ [n]).map fun n : Nat => (n : Int)).map D.int)), some (false, .int i), b]
    have c0 : op1 gInt (eVar 0) ρ1 = .ok (.cl, .int cell) := rfl
    have c0' : op1 gInt (eVar 0) ρ2 = .ok (.cl, .int cell) := rfl
    have c2 : eVar 2 ρ1 = .ok (.cl, .int limit) := rfl
    have c2' : eVar 2 ρ2 = .ok (.cl, .int limit) := rfl
    refine forL_n (ρ1 := ρ1) (ρ2 := _) rfl (sSeq_n (ρ1 := ρ2) ?_ (sSet_c (op2_ok c0' c2' (gFdiv_i (by omega))))) h1
    rw [sApp_ok (ds := (fs.map fun n : Nat => (n : Int)).map D.int) (e := (.cl, .int n)) rfl (op2_ok c0 c2 (by rw [gMod_i (by omega), hn])) rfl (by rw [List.length_map, List.length_map]; omega)]
    show SRes.nx [some (false, .int cell), some (false, .int count), some (false, .int limit), some (true, .lst ((fs.map fun n : Nat => (n : Int)).map D.int ++ [D.int n])), some (false, .int i), b] = SRes.nx ρ2
    show _ = SRes.nx [some (false, .int cell), some (false, .int count), some (false, .int limit), some (true, .lst (((fs ++ [n]).map fun n : Nat => (n : Int)).map D.int)), some (false, .int i), b]
    rw [List.map_append, List.map_append]
    rfl
def nbody : SF := (sSeq (sSet 5 (op2 gMod (op1 gInt (op2 gAdd (op2 gAdd (op2 gMulI (eVar 0) (eC (.int 48271))) (op2 gMulI (eVar 4) (eC (.int 69621)))) (eC (.int 7)))) (eC (.int 2147483647)))) <|
    sSeq (sSet 5 (op2 gMod (op1 gInt (op2 gAdd (op2 gAdd (op2 gAdd (op2 gMulI (eVar 5) (eVar 5)) (op2 gMulI (eVar 5) (eC (.int 40692)))) (op2 gMulI (eVar 4) (eC (.int 16807)))) (eC (.int 11)))) (eC (.int 2147483399)))) <|
    sApp 3 (op2 gMod (op1 gInt (op2 gFdiv (eVar 5) (eC (.int 32)))) (eVar 2)))
theorem num_turn (count limit i : Nat) (hl : 0 < limit ∧ limit < 1073741824) (cell : Int) (fs : List Nat) (b : Sl) (hm : fs.length < 16000000) :
    ∃ (n : Nat) (m2 : Int), n < limit ∧ nbody [some (false, .int cell), some (false, .int count), some (false, .int limit), some (true, .lst ((fs.map fun n : Nat => (n : Int)).map D.int)), some (false, .int i), b]
      = .nx [some (false, .int cell), some (false, .int count), some (false, .int limit), some (true, .lst (((fs ++ [n]).map fun n : Nat => (n : Int)).map D.int)), some (false, .int i), some (false, .int m2)] := by
  let m1 : Int := (cell * 48271 + (i : Int) * 69621 + 7) % 2147483647
  have hm1 : 0 ≤ m1 ∧ m1 < 2147483647 := ⟨Int.emod_nonneg _ (by decide), Int.emod_lt_of_pos _ (by decide)⟩
  let m2 : Int := (m1 * m1 + m1 * 40692 + (i : Int) * 16807 + 11) % 2147483399
  have e0 : 0 ≤ m2 / 32 % (limit : Int) := Int.emod_nonneg _ (by omega)
  have e1 : m2 / 32 % (limit : Int) < limit := Int.emod_lt_of_pos _ (by omega)
  obtain ⟨n, hn⟩ := Int.eq_ofNat_of_zero_le e0
  refine ⟨n, m2, by omega, ?_⟩
  let L : D := .lst ((fs.map fun n : Nat => (n : Int)).map D.int)
  let ρ1 : Ro := [some (false, .int cell), some (false, .int count), some (false, .int limit), some (true, L), some (false, .int i), b]
  let ρ2 : Ro := [some (false, .int cell), some (false, .int count), some (false, .int limit), some (true, L), some (false, .int i), some (false, .int m1)]
  let ρ3 : Ro := [some (false, .int cell), some (false, .int count), some (false, .int limit), some (true, L), some (false, .int i), some (false, .int m2)]
  have k : ∀ (z : Int) (ρ : Ro), eC (.int z) ρ = .ok (.cl, .int z) := fun _ _ => rfl
  have b0 : eVar 0 ρ1 = .ok (.cl, .int cell) := rfl
  have b4 : eVar 4 ρ1 = .ok (.cl, .int i) := rfl
  have c5 : eVar 5 ρ2 = .ok (.cl, .int m1) := rfl
  have c4 : eVar 4 ρ2 = .ok (.cl, .int i) := rfl
  have d5 : eVar 5 ρ3 = .ok (.cl, .int m2) := rfl
  have d2 : eVar 2 ρ3 = .ok (.cl, .int limit) := rfl
  have x1 := op2_ok (g := gMulI) b0 (k 48271 ρ1) (gMul_i (by decide))
  have x2 := op2_ok (g := gMulI) b4 (k 69621 ρ1) (gMul_i (by decide))
  have x3 := op2_ok (g := gAdd) (op2_ok (g := gAdd) x1 x2 gAdd_i) (k 7 ρ1) gAdd_i
  have x4 : op2 gMod _ _ ρ1 = .ok (.cl, .int m1) := op2_ok (op1_ok (g := gInt) x3 rfl) (k 2147483647 ρ1) (gMod_i (by decide))
  have y1 := op2_ok (g := gMulI) c5 c5 (gMul_i (by omega))
  have y2 := op2_ok (g := gMulI) c5 (k 40692 ρ2) (gMul_i (by decide))
  have y3 := op2_ok (g := gMulI) c4 (k 16807 ρ2) (gMul_i (by decide))
  have y4 := op2_ok (g := gAdd) (op2_ok (g := gAdd) (op2_ok (g := gAdd) y1 y2 gAdd_i) y3 gAdd_i) (k 11 ρ2) gAdd_i
  have y5 : op2 gMod _ _ ρ2 = .ok (.cl, .int m2) := op2_ok (op1_ok (g := gInt) y4 rfl) (k 2147483399 ρ2) (gMod_i (by decide))
  have z1 := op2_ok (g := gFdiv) d5 (k 32 ρ3) (gFdiv_i (by decide))
  have z2 : op2 gMod _ _ ρ3 = .ok (.cl, .int n) := op2_ok (op1_ok (g := gInt) z1 rfl) d2 (by rw [gMod_i (by omega), hn])
  unfold nbody
  refine sSeq_n (ρ1 := ρ2) (sSet_c x4) (sSeq_n (ρ1 := ρ3) (sSet_c y5) ?_)
  rw [sApp_ok (ds := (fs.map fun n : Nat => (n : Int)).map D.int) (e := (.cl, .int n)) rfl z2 rfl (by rw [List.length_map, List.length_map]; omega)]
  show SRes.nx [some (false, .int cell), some (false, .int count), some (false, .int limit), some (true, .lst ((fs.map fun n : Nat => (n : Int)).map D.int ++ [D.int n])), some (false, .int i), some (false, .int m2)] = _
  rw [List.map_append, List.map_append]
  rfl
theorem num_loop2 (count limit : Nat) (hl : 0 < limit ∧ limit < 1073741824) (cell : Int) : ∀ (m i : Nat) (fs : List Nat) (a b : Sl), fs.length + m ≤ 16000000 → Bel limit fs →
    ∃ (ns : List Nat) (a' b' : Sl), forL (gNm 4) nbody ((List.range' i m).map fun k : Nat => D.int k)
        [some (false, .int cell), some (false, .int count), some (false, .int limit), some (true, .lst ((fs.map fun n : Nat => (n : Int)).map D.int)), a, b]
      = .nx [some (false, .int cell), some (false, .int count), some (false, .int limit), some (true, .lst ((ns.map fun n : Nat => (n : Int)).map D.int)), a', b'] ∧ ns.length = fs.length + m ∧ Bel limit ns
  | 0, i, fs, a, b, hm, hb => ⟨fs, a, b, rfl, rfl, hb⟩
  | m + 1, i, fs, a, b, hm, hb => by
    obtain ⟨n, m2, hn, ht⟩ := num_turn count limit i hl cell fs b (by omega)
    obtain ⟨ns, a', b', h1, h2, h3⟩ := num_loop2 count limit hl cell m (i + 1) (fs ++ [n]) (some (false, .int i)) (some (false, .int m2)) (by rw [List.length_append, List.length_singleton]; omega) (fun x hx => (List.mem_append.mp hx).elim (hb x) fun z => by rw [List.mem_singleton.mp z]; omega)
    refine ⟨ns, a', b', ?_, by rw [h2, List.length_append, List.length_singleton]; omega, h3⟩
    rw [List.range'_succ, List.map_cons]
    exact forL_n (ρ1 := [some (false, .int cell), some (false, .int count), some (false, .int limit), some (true, .lst ((fs.map fun n : Nat => (n : Int)).map D.int)), some (false, .int i), b]) rfl ht h1
theorem e_numbers (cell : Int) (count limit : Nat) (hc : count ≤ 1000000) (hl : 0 < limit ∧ limit < 1073741824) :
    ∃ ns : List Nat, F__law_numbers [.int cell, .int count, .int limit] = .ok (.fr, .lst ((ns.map fun n : Nat => (n : Int)).map D.int)) ∧ ns.length = count ∧ Bel limit ns := by
  let ρ0 : Ro := [some (false, .int cell), some (false, .int count), some (false, .int limit), none, none, none]
  let ρ : Ro := [some (false, .int cell), some (false, .int count), some (false, .int limit), some (true, .lst []), none, none]
  have r1 : iRng (eVar 1) ρ = .ok (false, (List.range' 0 count).map fun k : Nat => D.int k) := iRng_ok (k := .cl) rfl (by omega)
  have t : t2 gGe (eVar 0) (op2 gPow (eC (.int 10)) (eC (.int 18))) ρ = .ok (decide ((10 : Int) ^ (18 : Int).toNat ≤ cell)) := t2_ok (k1 := .cl) (x := .int cell) rfl (op2_ok (k1 := .cl) (x := .int 10) (k2 := .cl) (y := .int 18) rfl rfl (gPow_i (by decide))) rfl
  have hs : sSet 3 (disp (fun ds => (.fr, .lst ds)) aNil) ρ0 = .nx ρ := rfl
  cases q : decide ((10 : Int) ^ (18 : Int).toNat ≤ cell) with
  | true =>
    rw [q] at t
    obtain ⟨ns, cell', a', h1, h2, h3⟩ := num_loop1 count limit hl count 0 cell [] none none (by rw [List.length_nil]; omega) (fun _ h => absurd h List.not_mem_nil)
    refine ⟨ns, fn_ok (ρ0 := ρ0) (s := .rt (.fr, .lst ((ns.map fun n : Nat => (n : Int)).map D.int))) rfl rfl ?_ rfl, by rw [h2]; exact Nat.zero_add _, h3⟩
    unfold B__law_numbers
    exact sSeq_n hs (sSeq_r (sIf_t t (sSeq_n (sFor_ok r1 h1) rfl)))
  | false =>
    rw [q] at t
    obtain ⟨ns, a', b', h1, h2, h3⟩ := num_loop2 count limit hl cell count 0 [] none none (by rw [List.length_nil]; omega) (fun _ h => absurd h List.not_mem_nil)
    refine ⟨ns, fn_ok (ρ0 := ρ0) (s := .rt (.fr, .lst ((ns.map fun n : Nat => (n : Int)).map D.int))) rfl rfl ?_ rfl, by rw [h2]; exact Nat.zero_add _, h3⟩
    unfold B__law_numbers
    exact sSeq_n hs (sSeq_n (ρ1 := ρ) (sIf_f t rfl) (sSeq_n (sFor_ok r1 h1) rfl))
end PL
set_option Elab.async false
set_option linter.all false
set_option maxRecDepth 100000
set_option maxHeartbeats 4000000
/-! Mk62e: drawn texts; what a spoilt row does. -/
namespace PL
open PySem PySem.Spec L2

/-! ### drawn texts -/
def known : List Nat := [32, 33, 34, 35, 36, 38, 39, 40, 41, 42, 43, 44, 45, 46, 47, 48, 49, 50, 51, 52, 53, 54, 55, 56, 57, 58, 59, 60, 61, 62, 63, 64, 65, 66, 67, 88, 89, 90, 91, 92, 93, 94, 95, 97, 98, 99, 100, 101, 102, 103, 104, 105, 106, 107, 108, 109, 110, 111, 112, 113, 114, 115, 116, 117, 118, 119, 120, 121, 122, 123, 124, 125, 126, 10]
theorem flat_one (f : Nat → Nat) : ∀ ns : List Nat, (ns.map fun n => [f n]).flatten = ns.map f
  | [] => rfl
  | n :: r => by
    rw [List.map_cons, List.flatten_cons, flat_one f r]
    rfl
theorem one_fit (f : Nat → Nat) (ns : List Nat) : joinSize [] (ns.map fun n => [f n]) = ns.length := by
  unfold joinSize
  rw [List.map_map]
  have : ∀ l : List Nat, (l.map (List.length ∘ fun n => [f n])).sum = l.length := by
    intro l
    induction l with
    | nil => rfl
    | cons a r ih => rw [List.map_cons, List.sum_cons, ih, List.length_cons]; simp only [Function.comp, List.length_cons, List.length_nil]; omega
  rw [this]
  simp
theorem e_signs (d : Int) (count : Nat) (hc : count ≤ 100000) : ∃ x, F__law_signs [.int d, .int count] = .ok (.cl, .str x) ∧ x.length = count ∧ ∀ c ∈ x, c ∈ known := by
  obtain ⟨ns, h1, h2, h3⟩ := e_numbers d count known.length (by omega) (by decide)
  have kl : known.length = 74 := by decide
  have hk : ∀ n, n < known.length → known[n]? = some (known.getD n 0) := fun n hn => by rw [List.getD_eq_getElem?_getD, List.getElem?_eq_getElem hn]; rfl
  let ρ : Ro := [some (false, .int d), some (false, .int count), some (false, .str known), none]
  refine ⟨ns.map fun n => known.getD n 0, fn_ok (ρ0 := [some (false, .int d), some (false, .int count), none, none]) (s := .rt (.cl, .str (ns.map fun n => known.getD n 0))) rfl rfl ?_ rfl, by rw [List.length_map, h2], fun c hc => ?_⟩
  · unfold B__law_signs
    refine sSeq_n (ρ1 := ρ) rfl (sRet_ok (mth1_ok (k1 := .cl) (a := []) (k2 := .fr) (y := .lst ((ns.map fun n => [known.getD n 0]).map D.str)) rfl (lcF_ok (p := (false, (ns.map fun n : Nat => (n : Int)).map D.int)) (ys := (ns.map fun n => [known.getD n 0]).map D.str) ?_ ?_ ?_) ?_))
    · have hl : op1 gLen (eVar 2) ρ = .ok (.cl, .int (known.length : Nat)) := op1_ok (k1 := .cl) (x := .str known) rfl (gLen_s (by decide))
      have hcall : eCall F__law_numbers 3 (aCons (eVar 0) (aCons (eVar 1) (aCons (op1 gLen (eVar 2)) aNil))) ρ = .ok (.fr, .lst ((ns.map fun n : Nat => (n : Int)).map D.int)) :=
        eCall_ok (aCons_ok rfl (aCons_ok rfl (aCons_ok hl rfl))) rfl rfl h1 (noLs_ints _)
      unfold iVal
      rw [hcall]
      rfl
    · simp only [List.length_map]; omega
    · rw [List.map_map, lcA_map (g := fun n => D.str [known.getD n 0]), List.map_map]
      · rfl
      · intro n hn
        have := h3 n hn
        refine turn_ok (ρ1 := [some (false, .int d), some (false, .int count), some (false, .str known), some (false, .int n)]) rfl rfl (e := (.cl, .str [known.getD n 0])) ?_ rfl
        exact op2_ok (k1 := .cl) (x := .str known) (k2 := .cl) (y := .int n) rfl rfl (gIx_s (by decide) (hk n this))
    · rw [gJoin_l (by rw [one_fit]; omega), joinL_nil, flat_one]
  · obtain ⟨n, hn, e⟩ := List.mem_map.mp hc
    rw [← e]
    exact List.mem_of_getElem? (hk n (h3 n hn))
theorem repl1 (a b : Nat) : ∀ x : List Nat, StrLaws.replL [a] [b] x = x.map fun c => if c = a then b else c
  | [] => StrLaws.replL_nil
  | c :: r => by
    by_cases h : c = a
    · subst h
      rw [StrLaws.replL_hit (List.cons_ne_nil _ _) (by rfl), List.map_cons, if_pos rfl]
      show [b] ++ StrLaws.replL [c] [b] r = _
      rw [repl1 c b r]
      rfl
    · rw [StrLaws.replL_miss (y := [a]) (c := c) (r := r) (fun z => h (List.cons.inj (show [c] = [a] from z)).1), List.map_cons, if_neg h, repl1 a b r]
theorem known_prc : ∀ c ∈ known, prc (if c = 10 then 126 else c) = true := by decide
theorem e_drawn (d : Int) (count : Nat) (hc : count ≤ 100000) : ∃ y, F__law_drawn [.int d, .int count] = .ok (.cl, .str y) ∧ y.length = count ∧ prn y = true := by
  obtain ⟨x, h1, h2, h3⟩ := e_signs d count hc
  refine ⟨x.map fun c => if c = 10 then 126 else c, fn_ok (ρ0 := [some (false, .int d), some (false, .int count)]) (s := .rt (.cl, .str (x.map fun c => if c = 10 then 126 else c))) rfl rfl ?_ rfl, by rw [List.length_map, h2], ?_⟩
  · unfold B__law_drawn
    refine sSeq_r (sRet_ok (op1_ok (k1 := .cl) (x := .str x) (eCall_ok (aCons_ok rfl (aCons_ok rfl rfl)) rfl rfl h1 rfl) ?_))
    rw [gRepl_ok (by simp only [List.length_cons, List.length_nil]; omega), repl1]
  · unfold prn
    rw [List.all_map]
    exact List.all_eq_true.mpr fun c hc => known_prc c (h3 c hc)

/-! ### rows of records -/
/-- a record without its newline -/
def bodyR (n : Nat) (p : List Nat) : List Nat := TL.numL n ++ 44 :: (TL.numL (chk p) ++ 44 :: p)
theorem recd_body (n : Nat) (p : List Nat) : recd n p = bodyR n p ++ [10] := by
  unfold recd bodyR
  simp only [List.append_assoc, List.cons_append]
theorem prn_10 {p : List Nat} (h : prn p = true) : 10 ∉ p := fun m => by
  have := List.all_eq_true.mp h 10 m
  exact absurd this (by decide)
theorem body_10 {n m : Nat} {p : List Nat} (h : prn p = true) : 10 ∉ TL.numL n ++ 44 :: (TL.numL m ++ 44 :: p) := fun z => by
  rcases List.mem_append.mp z with z | z
  · exact TL.numL_free (by omega) z
  rcases List.mem_cons.mp z with z | z
  · cases z
  rcases List.mem_append.mp z with z | z
  · exact TL.numL_free (by omega) z
  rcases List.mem_cons.mp z with z | z
  · cases z
  · exact prn_10 h z
theorem aft_body (n m : Nat) (p : List Nat) : aft (aft (TL.numL n ++ 44 :: (TL.numL m ++ 44 :: p))) = p := by
  rw [aft_some _ (TL.numL_free (by omega)), aft_some _ (TL.numL_free (by omega))]
theorem good_body {n : Nat} {p : List Nat} (h : prn p = true) (hl : p.length ≤ 20010) : good n (bodyR n p) = true := by
  unfold good
  rw [show aft (aft (bodyR n p)) = p from aft_body _ _ _, h, decide_eq_true hl, recd_body, beq_self_eq_true]
  rfl
theorem num_ne {a b : Nat} (h : a ≠ b) : TL.numL a ≠ TL.numL b := fun z => h (TL.numL_inj z)
theorem app44 {a b : List Nat} {x y : List Nat} (ha : 44 ∉ a) (hb : 44 ∉ b) (h : a ++ 44 :: x = b ++ 44 :: y) : a = b := by
  have h1 := spl1_row ha x
  rw [h, spl1_row hb y] at h1
  exact (List.cons.inj h1).1.symm
theorem bad_body {n c : Nat} {p : List Nat} (h : chk p ≠ c) : good n (TL.numL n ++ 44 :: (TL.numL c ++ 44 :: p)) = false := by
  unfold good
  rw [aft_body]
  have : (recd n p == (TL.numL n ++ 44 :: (TL.numL c ++ 44 :: p)) ++ [10]) = false := by
    rw [beq_eq_false_iff_ne, recd_body]
    intro z
    have z := List.append_cancel_right z
    unfold bodyR at z
    have z := List.append_cancel_left z
    have z := (List.cons.inj z).2
    exact num_ne h (app44 (TL.numL_free (by omega)) (TL.numL_free (by omega)) z)
  rw [this, Bool.and_false]
theorem rows_cons {p : List Nat} (h : 10 ∉ p) (rest : List Nat) : rows (p ++ 10 :: rest) = p :: rows rest := by
  unfold rows
  rw [spl1_row h, dropLast_cons' (spl1_ne 10 rest [])]
theorem pin_recs (X : List Nat) : ∀ (ps : List (List Nat)) (k : Nat), (∀ p ∈ ps, prn p = true ∧ p.length ≤ 20010) → pin (k + 1) (rows ((recs k ps).flatten ++ X)) = ps ++ pin (k + 1 + ps.length) (rows X)
  | [], k, _ => rfl
  | p :: r, k, h => by
    have hp := h p List.mem_cons_self
    have e : (recs k (p :: r)).flatten ++ X = bodyR (k + 1) p ++ 10 :: ((recs (k + 1) r).flatten ++ X) := by
      show (recd (k + 1) p ++ (recs (k + 1) r).flatten) ++ X = _
      rw [recd_body]
      simp only [List.append_assoc, List.cons_append, List.nil_append]
    rw [e, rows_cons (show 10 ∉ bodyR (k + 1) p from body_10 hp.1)]
    show (if good (k + 1) (bodyR (k + 1) p) = true then aft (aft (bodyR (k + 1) p)) :: pin (k + 1 + 1) (rows ((recs (k + 1) r).flatten ++ X)) else []) = _
    rw [if_pos (good_body hp.1 hp.2), show aft (aft (bodyR (k + 1) p)) = p from aft_body _ _ _, pin_recs X r (k + 1) fun q hq => h q (List.mem_cons_of_mem _ hq), List.length_cons, show k + 1 + 1 + r.length = k + 1 + (r.length + 1) by omega]
    rfl
/-- a payload that is not the one of its check -/
theorem pin_spoilt {ps : List (List Nat)} (h : ∀ p ∈ ps, prn p = true ∧ p.length ≤ 20010) {b rest : List Nat} {c : Nat} (hb : prn b = true) (hc : chk b ≠ c) :
    pin 1 (rows (jour ps ++ ((TL.numL (ps.length + 1) ++ 44 :: (TL.numL c ++ 44 :: b)) ++ 10 :: rest))) = ps := by
  unfold jour
  rw [pin_recs _ ps 0 h, rows_cons (body_10 hb)]
  show ps ++ (if good (0 + 1 + ps.length) _ = true then _ else []) = ps
  rw [show 0 + 1 + ps.length = ps.length + 1 by omega, if_neg (by rw [bad_body hc]; exact Bool.false_ne_true), List.append_nil]
theorem recs_app : ∀ (ps qs : List (List Nat)) (k : Nat), recs k (ps ++ qs) = recs k ps ++ recs (k + ps.length) qs
  | [], qs, k => rfl
  | p :: r, qs, k => by
    show recd (k + 1) p :: recs (k + 1) (r ++ qs) = recd (k + 1) p :: (recs (k + 1) r ++ recs (k + (r.length + 1)) qs)
    rw [recs_app r qs (k + 1), show k + 1 + r.length = k + (r.length + 1) by omega]

/-! ### changed checks -/
theorem chs_app : ∀ (a b : List Nat) (k : Nat), chs k (a ++ b) = chs k a + chs (k + a.length) b
  | [], b, k => by
    show chs k b = 0 + chs (k + 0) b
    rw [Nat.zero_add, Nat.add_zero]
  | c :: r, b, k => by
    show (k + 1) * c + chs (k + 1) (r ++ b) = (k + 1) * c + chs (k + 1) r + chs (k + (r.length + 1)) b
    rw [chs_app r b (k + 1), show k + 1 + r.length = k + (r.length + 1) by omega, Nat.add_assoc]
theorem mod_tab : ∀ a, a < 201 → ∀ d, d < 96 → 0 < a → 0 < d → a * d % 977 ≠ 0 := by decide +kernel
theorem mod_ne {X a c c' : Nat} (ha : 0 < a) (ha2 : a < 201) (h : c' < c) (hd : c - c' < 96) : (X + a * c) % 977 ≠ (X + a * c') % 977 := fun z => by
  have e : X + a * c = (X + a * c') + a * (c - c') := by
    have : a * c = a * c' + a * (c - c') := by rw [← Nat.mul_add, Nat.add_sub_cancel' (Nat.le_of_lt h)]
    omega
  have := Nat.sub_mod_eq_zero_of_mod_eq z
  rw [e, Nat.add_sub_cancel_left] at this
  exact mod_tab a ha2 (c - c') hd ha (by omega) this
theorem mod_ne' {X a c c' : Nat} (ha : 0 < a) (ha2 : a < 201) (h : c' ≠ c) (hd : c < c' + 96) (hd' : c' < c + 96) : (X + a * c) % 977 ≠ (X + a * c') % 977 := by
  rcases Nat.lt_or_gt_of_ne h with q | q
  · exact mod_ne ha ha2 q (by omega)
  · exact (mod_ne ha ha2 q (by omega)).symm
theorem prc_rng {c : Nat} (h : prc c = true) : 32 ≤ c ∧ c ≤ 126 := by
  unfold prc at h
  rw [Bool.and_eq_true, decide_eq_true_eq, decide_eq_true_eq] at h
  exact h
theorem chk_swap {u v : List Nat} {c c' : Nat} (hu : u.length < 200) (hc : prc c = true) (hc' : prc c' = true) (h : c' ≠ c) : chk (u ++ c' :: v) ≠ chk (u ++ c :: v) := by
  have e : ∀ d, chs 0 (u ++ d :: v) = (chs 0 u + chs (0 + u.length + 1) v) + (u.length + 1) * d := fun d => by
    rw [chs_app]
    show chs 0 u + ((0 + u.length + 1) * d + chs (0 + u.length + 1) v) = _
    rw [Nat.zero_add]
    omega
  have r1 := prc_rng hc
  have r2 := prc_rng hc'
  unfold chk
  rw [e, e]
  exact (mod_ne' (by omega) (by omega) h (by omega) (by omega)).symm
theorem chk_turn {u v : List Nat} {x y : Nat} (hu : u.length < 200) (hx : prc x = true) (hy : prc y = true) (h : x ≠ y) : chk (u ++ y :: x :: v) ≠ chk (u ++ x :: y :: v) := by
  have e : ∀ a b, chs 0 (u ++ a :: b :: v) = (chs 0 u + chs (0 + u.length + 1 + 1) v) + ((u.length + 1) * a + (u.length + 2) * b) := fun a b => by
    rw [chs_app]
    show chs 0 u + ((0 + u.length + 1) * a + ((0 + u.length + 1 + 1) * b + chs (0 + u.length + 1 + 1) v)) = _
    rw [Nat.zero_add, show u.length + 1 + 1 = u.length + 2 from rfl]
    omega
  have r1 := prc_rng hx
  have r2 := prc_rng hy
  have e1 : (u.length + 1) * y + (u.length + 2) * x = ((u.length + 1) * y + (u.length + 1) * x) + 1 * x := by
    rw [show u.length + 2 = (u.length + 1) + 1 from rfl, Nat.add_mul (u.length + 1) 1 x]; omega
  have e2 : (u.length + 1) * x + (u.length + 2) * y = ((u.length + 1) * y + (u.length + 1) * x) + 1 * y := by
    rw [show u.length + 2 = (u.length + 1) + 1 from rfl, Nat.add_mul (u.length + 1) 1 y]; omega
  unfold chk
  rw [e, e, e1, e2]
  simp only [← Nat.add_assoc]
  exact mod_ne' (a := 1) (by decide) (by decide) (Ne.symm h) (by omega) (by omega)
end PL
set_option Elab.async false
set_option linter.all false
set_option maxRecDepth 100000
set_option maxHeartbeats 4000000
/-! Mk62f: the def of the spoilt rows answers True. -/
namespace PL
open PySem PySem.Spec L2

section
variable {ρ : Ro} {fa fl fh : EF} {k k2 k3 : Kd}
theorem slTo {x : List Nat} {n : Nat} (ha : fa ρ = .ok (k, .str x)) (hh : fh ρ = .ok (k2, .int n)) (hz : x.length ≤ 16777216) : eSl fa (oSome (eC (.int 0))) (oSome fh) ρ = .ok (.cl, .str (x.take n)) := by
  unfold eSl
  rw [ha, R.bind_ok]
  show (R.ok (some (0 : Int))).bind _ = _
  rw [R.bind_ok]
  unfold oSome
  rw [hh, R.bind_ok]
  show gSl (.str x) (some 0) (some (n : Int)) = _
  rw [gSl_s hz, cut_to]
theorem slFrom {x : List Nat} {n : Nat} (ha : fa ρ = .ok (k, .str x)) (hl : fl ρ = .ok (k2, .int n)) (hz : x.length ≤ 16777216) : eSl fa (oSome fl) oNo ρ = .ok (.cl, .str (x.drop n)) := by
  unfold eSl
  rw [ha, R.bind_ok]
  unfold oSome
  rw [hl, R.bind_ok]
  show gSl (.str x) (some (n : Int)) none = _
  rw [gSl_s hz, cut_from]
theorem slToL {x : List D} {n : Nat} (ha : fa ρ = .ok (k, .lst x)) (hh : fh ρ = .ok (k2, .int n)) : eSl fa (oSome (eC (.int 0))) (oSome fh) ρ = .ok (.fr, .lst (x.take n)) := by
  unfold eSl
  rw [ha, R.bind_ok]
  show (R.ok (some (0 : Int))).bind _ = _
  rw [R.bind_ok]
  unfold oSome
  rw [hh, R.bind_ok]
  show R.ok (Kd.fr, D.lst (cutL x (some 0) (some (n : Int)))) = _
  rw [cut_to]
theorem slFromL {x : List D} {n : Nat} (ha : fa ρ = .ok (k, .lst x)) (hl : fl ρ = .ok (k2, .int n)) : eSl fa (oSome fl) oNo ρ = .ok (.fr, .lst (x.drop n)) := by
  unfold eSl
  rw [ha, R.bind_ok]
  unfold oSome
  rw [hl, R.bind_ok]
  show R.ok (Kd.fr, D.lst (cutL x (some (n : Int)) none)) = _
  rw [cut_from]
theorem ixS {x : List Nat} {n c : Nat} (ha : fa ρ = .ok (k, .str x)) (hl : fl ρ = .ok (k2, .int n)) (hz : x.length ≤ 16777216) (hc : x[n]? = some c) : op2 gIx fa fl ρ = .ok (.cl, .str [c]) := op2_ok ha hl (gIx_s hz hc)
theorem addS {x y : List Nat} (ha : fa ρ = .ok (k, .str x)) (hl : fl ρ = .ok (k2, .str y)) (hz : x.length + y.length ≤ 16777216) : op2 gAdd fa fl ρ = .ok (.cl, .str (x ++ y)) := op2_ok ha hl (gAdd_s hz)
theorem addN {x y : Nat} (ha : fa ρ = .ok (k, .int x)) (hl : fl ρ = .ok (k2, .int y)) : op2 gAdd fa fl ρ = .ok (.cl, .int ((x + y : Nat) : Int)) := op2_ok ha hl gAdd_i
theorem lenS {x : List Nat} (ha : fa ρ = .ok (k, .str x)) (hz : x.length ≤ 16777216) : op1 gLen fa ρ = .ok (.cl, .int (x.length : Nat)) := op1_ok ha (gLen_s hz)
end
def sgbody : SF := sIf (tAndF (t2 gNe (eVar 10) (op2 gIx (eVar 4) (eVar 5))) (tNotF (tVal (eCall (F__law_same 3) 2 (aCons (eCall (F_payloads_in) 1 (aCons (op2 gAdd (op2 gAdd (op2 gAdd (op2 gAdd (op2 gAdd (op2 gAdd (eVar 6) (eVar 9)) (eSl (eVar 4) (oSome (eC (.int 0))) (oSome (eVar 5)))) (eVar 10)) (eSl (eVar 4) (oSome (op2 gAdd (eVar 5) (eC (.int 1)))) (oNo))) (eC (.str [10]))) (eVar 8)) (aNil))) (aCons (eSl (eVar 0) (oSome (eC (.int 0))) (oSome (eVar 3))) (aNil))))))) (sRet (eC (.bl false))) (sSkip)
def trbody : SF := sIf (tAndF (t2 gLt (op2 gAdd (eVar 5) (eC (.int 1))) (op1 gLen (eVar 4))) (t2 gNe (op2 gIx (eVar 4) (eVar 5)) (op2 gIx (eVar 4) (op2 gAdd (eVar 5) (eC (.int 1)))))) (sSeq (sSet 11 (op2 gAdd (op2 gAdd (op2 gAdd (eSl (eVar 4) (oSome (eC (.int 0))) (oSome (eVar 5))) (op2 gIx (eVar 4) (op2 gAdd (eVar 5) (eC (.int 1))))) (op2 gIx (eVar 4) (eVar 5))) (eSl (eVar 4) (oSome (op2 gAdd (eVar 5) (eC (.int 2)))) (oNo)))) <|
    sIf (tNotF (tVal (eCall (F__law_same 3) 2 (aCons (eCall (F_payloads_in) 1 (aCons (op2 gAdd (op2 gAdd (op2 gAdd (op2 gAdd (eVar 6) (eVar 9)) (eVar 11)) (eC (.str [10]))) (eVar 8)) (aNil))) (aCons (eSl (eVar 0) (oSome (eC (.int 0))) (oSome (eVar 3))) (aNil)))))) (sRet (eC (.bl false))) (sSkip)) (sSkip)
def kbody : SF := (sSeq (sSet 4 (op2 gIx (eVar 0) (eVar 3))) <|
    sIf (t2 gGt (op1 gLen (eVar 4)) (eC (.int 0))) (sSeq (sSet 5 (op2 gMod (op2 gIx (eVar 1) (eVar 3)) (op1 gLen (eVar 4)))) <|
    sSeq (sSet 6 (eCall (F__law_journal) 1 (aCons (eSl (eVar 0) (oSome (eC (.int 0))) (oSome (eVar 3))) (aNil)))) <|
    sSeq (sSet 7 (eCall (F__law_record) 2 (aCons (op2 gAdd (eVar 3) (eC (.int 1))) (aCons (eVar 4) (aNil))))) <|
    sSeq (sSet 8 (eSl (eVar 2) (oSome (op2 gAdd (op1 gLen (eVar 6)) (op1 gLen (eVar 7)))) (oNo))) <|
    sSeq (sSet 9 (eSl (eVar 7) (oSome (eC (.int 0))) (oSome (op2 gSub (op2 gSub (op1 gLen (eVar 7)) (eC (.int 1))) (op1 gLen (eVar 4)))))) <|
    sSeq (sFor (iVal (op2 gAdd (eCall (F__law_drawn) 2 (aCons (op2 gIx (eVar 1) (op2 gAdd (eVar 3) (eC (.int 8)))) (aCons (eC (.int 3)) (aNil)))) (eC (.str [32, 126, 44])))) (gNm 10) sgbody) trbody) (sSkip))
theorem B_spoilt : B__law_spoilt_rows = sSeq (sSet 2 (eCall (F__law_journal) 1 (aCons (eVar 0) (aNil)))) (sSeq (sFor (iRng (op1 gLen (eVar 0))) (gNm 3) kbody) (sRet (eC (.bl true)))) := rfl

theorem jour_len {m : Nat} {ps : List (List Nat)} (h : ∀ p ∈ ps, p.length ≤ m) (hn : ps.length < 2 ^ 60) : (jour ps).length ≤ ps.length * (m + 26) := by
  unfold jour
  rw [List.length_flatten]
  exact recs_sum ps 0 h (by omega)
section
variable {ps : List (List Nat)} {Dr : D} {text rest before head row line : List Nat} {k s : Nat}
/-- the slots in a turn -/
def env9 (ps : List (List Nat)) (Dr : D) (text : List Nat) (k : Nat) (line : List Nat) (s : Nat) (before row rest head : List Nat) (sg tn : Sl) : Ro :=
  [some (false, .lst (ps.map D.str)), some (false, Dr), some (false, .str text), some (false, .int k), some (false, .str line), some (false, .int s), some (false, .str before), some (false, .str row), some (false, .str rest), some (false, .str head), sg, tn]
theorem same_pin {ρ : Ro} {e : EF} {z : List Nat} (he : e ρ = .ok (.cl, .str z)) (hz : z.length ≤ 4000000) (h0 : eVar 0 ρ = .ok (.cl, .lst (ps.map D.str))) (h3 : eVar 3 ρ = .ok (.cl, .int k)) (hk : k ≤ ps.length) (hp : ps.length ≤ 100) (hq : pin 1 (rows z) = ps.take k) :
    tNotF (tVal (eCall (F__law_same 3) 2 (aCons (eCall (F_payloads_in) 1 (aCons e (aNil))) (aCons (eSl (eVar 0) (oSome (eC (.int 0))) (oSome (eVar 3))) (aNil))))) ρ = .ok false := by
  have c1 : eCall F_payloads_in 1 (aCons e aNil) ρ = .ok (.fr, .lst ((ps.take k).map D.str)) := by
    rw [← hq]
    exact eCall_ok (aCons_ok he rfl) rfl rfl (e_payloads z (by omega)) (noLs_strs _)
  have c2 : eSl (eVar 0) (oSome (eC (.int 0))) (oSome (eVar 3)) ρ = .ok (.fr, .lst ((ps.take k).map D.str)) := by
    rw [slToL h0 h3, List.map_take]
  exact tNot_ok (b := true) (tVal_b (eCall_ok (aCons_ok c1 (aCons_ok c2 rfl)) rfl rfl (same_strs 1 (ps.take k) (by rw [List.length_take]; omega)) rfl))
theorem sg_turn (hp : ps.length ≤ 100) (hk : k < ps.length) (hs : s < line.length) (hl : line.length < 200) (hb : before.length ≤ 100000) (hh : head.length ≤ 1000) (hr : rest.length ≤ 100000) (tn : Sl) {c : Nat}
    (hq : ∀ b, prn b = true → chk b ≠ chk line → pin 1 (rows (before ++ head ++ b ++ [10] ++ rest)) = ps.take k) (hpl : prn line = true) (hc : prc c = true) :
    sgbody (env9 ps Dr text k line s before row rest head (some (false, .str [c])) tn) = .nx (env9 ps Dr text k line s before row rest head (some (false, .str [c])) tn) := by
  generalize hρ : env9 ps Dr text k line s before row rest head (some (false, .str [c])) tn = ρ
  have v0 : eVar 0 ρ = .ok (.cl, .lst (ps.map D.str)) := by rw [← hρ]; rfl
  have v3 : eVar 3 ρ = .ok (.cl, .int k) := by rw [← hρ]; rfl
  have v4 : eVar 4 ρ = .ok (.cl, .str line) := by rw [← hρ]; rfl
  have v5 : eVar 5 ρ = .ok (.cl, .int s) := by rw [← hρ]; rfl
  have v6 : eVar 6 ρ = .ok (.cl, .str before) := by rw [← hρ]; rfl
  have v8 : eVar 8 ρ = .ok (.cl, .str rest) := by rw [← hρ]; rfl
  have v9 : eVar 9 ρ = .ok (.cl, .str head) := by rw [← hρ]; rfl
  have v10 : eVar 10 ρ = .ok (.cl, .str [c]) := by rw [← hρ]; rfl
  have c1 : eC (.int 1) ρ = .ok (.cl, .int ((1 : Nat) : Int)) := rfl
  have cn : eC (.str [10]) ρ = .ok (.cl, .str [10]) := rfl
  have x : op2 gIx (eVar 4) (eVar 5) ρ = .ok (.cl, .str [line[s]]) := ixS v4 v5 (by omega) (List.getElem?_eq_getElem hs)
  have t1 := t2_ok (g := gNe) v10 x gNe_s
  unfold sgbody
  by_cases e : c = line[s]
  · have : ([c] == [line[s]]) = true := by rw [e]; exact beq_self_eq_true _
    rw [this] at t1
    exact sIf_f (tAnd_f t1) rfl
  · have : ([c] == [line[s]]) = false := beq_false_of_ne fun z => e (List.cons.inj z).1
    rw [this] at t1
    have lt : (line.take s).length ≤ 200 := by rw [List.length_take]; omega
    have ld : (line.drop (s + 1)).length ≤ 200 := by rw [List.length_drop]; omega
    have s1 := addS v6 v9 (by omega)
    have s2 := addS s1 (slTo v4 v5 (by omega)) (by rw [List.length_append]; omega)
    have s3 := addS s2 v10 (by rw [List.length_append, List.length_append, List.length_singleton]; omega)
    have s4 := addS s3 (slFrom v4 (addN v5 c1) (by omega)) (by simp only [List.length_append, List.length_singleton]; omega)
    have s5 := addS s4 cn (by simp only [List.length_append, List.length_singleton]; omega)
    have s6 := addS s5 v8 (by simp only [List.length_append, List.length_singleton]; omega)
    have el : line = line.take s ++ line[s] :: line.drop (s + 1) := by rw [← List.drop_eq_getElem_cons hs, List.take_append_drop]
    have hm : line[s] ∈ line := List.getElem_mem hs
    have hpc : prc line[s] = true := List.all_eq_true.mp hpl _ hm
    have pb : prn (line.take s ++ c :: line.drop (s + 1)) = true := by
      unfold prn
      rw [List.all_append, List.all_cons, hc, Bool.true_and, Bool.and_eq_true]
      exact ⟨List.all_eq_true.mpr fun z hz => List.all_eq_true.mp hpl z (List.mem_of_mem_take hz), List.all_eq_true.mpr fun z hz => List.all_eq_true.mp hpl z (List.mem_of_mem_drop hz)⟩
    have hne : chk (line.take s ++ c :: line.drop (s + 1)) ≠ chk line := by
      conv => rhs; rw [el]
      exact chk_swap (by rw [List.length_take]; omega) hpc hc e
    have hz : before ++ head ++ line.take s ++ [c] ++ line.drop (s + 1) ++ [10] ++ rest = before ++ head ++ (line.take s ++ c :: line.drop (s + 1)) ++ [10] ++ rest := by simp only [List.append_assoc, List.cons_append, List.nil_append]
    refine sIf_f (tAnd_t t1 (same_pin s6 ?_ v0 v3 (by omega) hp ?_)) rfl
    · simp only [List.length_append, List.length_singleton]; omega
    · rw [hz]; exact hq _ pb hne
theorem tr_turn (hp : ps.length ≤ 100) (hk : k < ps.length) (hs : s < line.length) (hl : line.length < 200) (hb : before.length ≤ 100000) (hh : head.length ≤ 1000) (hr : rest.length ≤ 100000) (sg tn : Sl)
    (hq : ∀ b, prn b = true → chk b ≠ chk line → pin 1 (rows (before ++ head ++ b ++ [10] ++ rest)) = ps.take k) (hpl : prn line = true) :
    ∃ tn', trbody (env9 ps Dr text k line s before row rest head sg tn) = .nx (env9 ps Dr text k line s before row rest head sg tn') := by
  have mk : ∀ tn, ∃ ρ, env9 ps Dr text k line s before row rest head sg tn = ρ ∧ eVar 0 ρ = .ok (.cl, .lst (ps.map D.str)) ∧ eVar 3 ρ = .ok (.cl, .int k) ∧ eVar 4 ρ = .ok (.cl, .str line) ∧ eVar 5 ρ = .ok (.cl, .int s) ∧ eVar 6 ρ = .ok (.cl, .str before) ∧ eVar 8 ρ = .ok (.cl, .str rest) ∧ eVar 9 ρ = .ok (.cl, .str head) := fun tn => ⟨_, rfl, rfl, rfl, rfl, rfl, rfl, rfl, rfl⟩
  obtain ⟨ρ, hρ, v0, v3, v4, v5, v6, v8, v9⟩ := mk tn
  have c1 : eC (.int 1) ρ = .ok (.cl, .int ((1 : Nat) : Int)) := rfl
  have c2 : eC (.int 2) ρ = .ok (.cl, .int ((2 : Nat) : Int)) := rfl
  have t1 : t2 gLt (op2 gAdd (eVar 5) (eC (.int 1))) (op1 gLen (eVar 4)) ρ = .ok (decide (((s + 1 : Nat) : Int) < (line.length : Int))) := t2_ok (addN v5 c1) (lenS v4 (by omega)) rfl
  unfold trbody
  rw [hρ]
  by_cases hn : s + 1 < line.length
  · have x0 : op2 gIx (eVar 4) (eVar 5) ρ = .ok (.cl, .str [line[s]]) := ixS v4 v5 (by omega) (List.getElem?_eq_getElem hs)
    have x1 : op2 gIx (eVar 4) (op2 gAdd (eVar 5) (eC (.int 1))) ρ = .ok (.cl, .str [line[s + 1]]) := ixS v4 (addN v5 c1) (by omega) (List.getElem?_eq_getElem hn)
    have t3 := t2_ok (g := gNe) x0 x1 gNe_s
    rw [decide_eq_true (by omega)] at t1
    by_cases e : line[s] = line[s + 1]
    · have : ([line[s]] == [line[s + 1]]) = true := by rw [e]; exact beq_self_eq_true _
      rw [this] at t3
      exact ⟨tn, by rw [sIf_f (tAnd_t t1 t3) rfl, ← hρ]; rfl⟩
    · have : ([line[s]] == [line[s + 1]]) = false := beq_false_of_ne fun z => e (List.cons.inj z).1
      rw [this] at t3
      have lt : (line.take s).length ≤ 200 := by rw [List.length_take]; omega
      have ld : (line.drop (s + 2)).length ≤ 200 := by rw [List.length_drop]; omega
      have a1 := addS (slTo v4 v5 (by omega)) x1 (by rw [List.length_singleton]; omega)
      have a2 := addS a1 x0 (by simp only [List.length_append, List.length_singleton]; omega)
      have a3 := addS a2 (slFrom v4 (addN v5 c2) (by omega)) (by simp only [List.length_append, List.length_singleton]; omega)
      have ez : line.take s ++ [line[s + 1]] ++ [line[s]] ++ line.drop (s + 2) = line.take s ++ line[s + 1] :: line[s] :: line.drop (s + 2) := by simp only [List.append_assoc, List.cons_append, List.nil_append]
      rw [ez] at a3
      generalize hb' : line.take s ++ line[s + 1] :: line[s] :: line.drop (s + 2) = b at a3
      have el : line = line.take s ++ line[s] :: line[s + 1] :: line.drop (s + 2) := by rw [← List.drop_eq_getElem_cons hn, ← List.drop_eq_getElem_cons hs, List.take_append_drop]
      have p0 : prc line[s] = true := List.all_eq_true.mp hpl _ (List.getElem_mem hs)
      have p1 : prc line[s + 1] = true := List.all_eq_true.mp hpl _ (List.getElem_mem hn)
      have pb : prn b = true := by
        rw [← hb']
        unfold prn
        rw [List.all_append, List.all_cons, List.all_cons, p0, p1, Bool.true_and, Bool.true_and, Bool.and_eq_true]
        exact ⟨List.all_eq_true.mpr fun z hz => List.all_eq_true.mp hpl z (List.mem_of_mem_take hz), List.all_eq_true.mpr fun z hz => List.all_eq_true.mp hpl z (List.mem_of_mem_drop hz)⟩
      have hne : chk b ≠ chk line := by
        conv => rhs; rw [el]
        rw [← hb']
        exact chk_turn (by rw [List.length_take]; omega) p0 p1 e
      have bl : b.length ≤ 1000 := by
        rw [← hb']
        simp only [List.length_append, List.length_cons]
        omega
      obtain ⟨ρ', hρ', w0, w3, w4, w5, w6, w8, w9⟩ := mk (some (false, .str b))
      have w11 : eVar 11 ρ' = .ok (.cl, .str b) := by rw [← hρ']; rfl
      have cn : eC (.str [10]) ρ' = .ok (.cl, .str [10]) := rfl
      have b1 := addS w6 w9 (by omega)
      have b2 := addS b1 w11 (by simp only [List.length_append]; omega)
      have b3 := addS b2 cn (by simp only [List.length_append, List.length_singleton]; omega)
      have b4 := addS b3 w8 (by simp only [List.length_append, List.length_singleton]; omega)
      refine ⟨some (false, .str b), ?_⟩
      refine sIf_t (tAnd_t t1 t3) (sSeq_n (ρ1 := ρ') ?_ ?_)
      · rw [sSet_c a3, ← hρ, ← hρ']
        rfl
      · rw [sIf_f (same_pin b4 ?_ w0 w3 (by omega) hp (hq b pb hne)) rfl, hρ']
        rfl
        simp only [List.length_append, List.length_singleton]; omega
  · rw [decide_eq_false (by omega)] at t1
    exact ⟨tn, by rw [sIf_f (tAnd_f t1) rfl, ← hρ]; rfl⟩
end
end PL
set_option Elab.async false
set_option linter.all false
set_option maxRecDepth 100000
set_option maxHeartbeats 4000000
/-! Mk62g: the loops over the rows. -/
namespace PL
open PySem PySem.Spec L2

section
variable {ps : List (List Nat)} {ds : List Nat}
def numD (ds : List Nat) : D := .lst ((ds.map fun n : Nat => (n : Int)).map D.int)
theorem numD_get {ds : List Nat} {i : Nat} (h : i < ds.length) : ((ds.map fun n : Nat => (n : Int)).map D.int)[i]? = some (.int (ds[i] : Nat)) := by
  rw [List.getElem?_map, List.getElem?_map, List.getElem?_eq_getElem h]
  rfl
theorem ixN_ok {ρ : Ro} {fa fb : EF} {k k2 : Kd} {i : Nat} (ha : fa ρ = .ok (k, numD ds)) (hb : fb ρ = .ok (k2, .int i)) (h : i < ds.length) : op2 gIx fa fb ρ = .ok (.cl, .int (ds[i] : Nat)) := op2_ok ha hb (gIx_l (numD_get h))
/-- good payloads for the law -/
def Lines (ps : List (List Nat)) : Prop := ps.length ≤ 8 ∧ ∀ p ∈ ps, prn p = true ∧ p.length < 200
theorem Lines.sm (h : Lines ps) : Sm 100 20100 ps := ⟨by have := h.1; omega, fun p hp => by have := (h.2 p hp).2; omega⟩
theorem Lines.take (h : Lines ps) (k : Nat) : Lines (ps.take k) := ⟨by rw [List.length_take]; have := h.1; omega, fun p hp => h.2 p (List.mem_of_mem_take hp)⟩
theorem Lines.jour (h : Lines ps) : (jour ps).length ≤ 2000 := by
  have h1 := jour_len (m := 199) (fun p hp => by have := (h.2 p hp).2; omega) (by have := h.1; omega : ps.length < 2 ^ 60)
  have h2 : ps.length * (199 + 26) ≤ 8 * (199 + 26) := Nat.mul_le_mul_right _ h.1
  omega
def envK (ps : List (List Nat)) (ds : List Nat) (k : Nat) (a4 a5 a6 a7 a8 a9 a10 a11 : Sl) : Ro := [some (false, .lst (ps.map D.str)), some (false, numD ds), some (false, .str (jour ps)), some (false, .int k), a4, a5, a6, a7, a8, a9, a10, a11]
theorem sg_loop {k s : Nat} {line before row rest head : List Nat} (hp : ps.length ≤ 100) (hk : k < ps.length) (hs : s < line.length) (hl : line.length < 200) (hb : before.length ≤ 100000) (hh : head.length ≤ 1000) (hr : rest.length ≤ 100000) (tn : Sl)
    (hq : ∀ b, prn b = true → chk b ≠ chk line → pin 1 (rows (before ++ head ++ b ++ [10] ++ rest)) = ps.take k) (hpl : prn line = true) : ∀ (cs : List Nat) (sg : Sl), prn cs = true →
    ∃ sg', forL (gNm 10) sgbody (cs.map fun c => D.str [c]) (env9 ps (numD ds) (jour ps) k line s before row rest head sg tn) = .nx (env9 ps (numD ds) (jour ps) k line s before row rest head sg' tn)
  | [], sg, _ => ⟨sg, rfl⟩
  | c :: cs, sg, hc => by
    have hc : (prc c && prn cs) = true := hc
    rw [Bool.and_eq_true] at hc
    obtain ⟨sg', ih⟩ := sg_loop hp hk hs hl hb hh hr tn hq hpl cs (some (false, .str [c])) hc.2
    exact ⟨sg', forL_n (ρ1 := env9 ps (numD ds) (jour ps) k line s before row rest head (some (false, .str [c])) tn) rfl (sg_turn hp hk hs hl hb hh hr tn hq hpl hc.1) ih⟩
theorem take_recd (k : Nat) (line : List Nat) : (recd (k + 1) line).take ((recd (k + 1) line).length - 1 - line.length) = TL.numL (k + 1) ++ 44 :: (TL.numL (chk line) ++ [44]) := by
  have e : recd (k + 1) line = (TL.numL (k + 1) ++ 44 :: (TL.numL (chk line) ++ [44])) ++ (line ++ [10]) := by
    unfold recd
    simp only [List.append_assoc, List.cons_append, List.nil_append]
  rw [e]
  have : ((TL.numL (k + 1) ++ 44 :: (TL.numL (chk line) ++ [44])) ++ (line ++ [10])).length - 1 - line.length = (TL.numL (k + 1) ++ 44 :: (TL.numL (chk line) ++ [44])).length := by
    rw [List.length_append (bs := line ++ [10]), List.length_append (as := line), List.length_singleton]
    omega
  rw [this, List.take_left]
theorem k_turn (h : Lines ps) (hd : 16 ≤ ds.length) {k : Nat} (hk : k < ps.length) (a4 a5 a6 a7 a8 a9 a10 a11 : Sl) : ∃ b4 b5 b6 b7 b8 b9 b10 b11 : Sl, kbody (envK ps ds k a4 a5 a6 a7 a8 a9 a10 a11) = .nx (envK ps ds k b4 b5 b6 b7 b8 b9 b10 b11) := by
  have hp8 := h.1
  obtain ⟨hpl, hl⟩ := h.2 _ (List.getElem_mem hk)
  have g4 : op2 gIx (eVar 0) (eVar 3) (envK ps ds k a4 a5 a6 a7 a8 a9 a10 a11) = .ok (.cl, .str ps[k]) := op2_ok (k1 := .cl) (x := .lst (ps.map D.str)) (k2 := .cl) (y := .int k) rfl rfl (gIx_l (by rw [List.getElem?_map, List.getElem?_eq_getElem hk]; rfl))
  generalize hline : ps[k] = line at g4 hpl hl
  let ρ1 := envK ps ds k (some (false, .str line)) a5 a6 a7 a8 a9 a10 a11
  have t1 : t2 gGt (op1 gLen (eVar 4)) (eC (.int 0)) ρ1 = .ok (decide ((0 : Int) < (line.length : Int))) := t2_ok (k2 := .cl) (y := .int 0) (lenS (k := .cl) (x := line) rfl (by omega)) rfl rfl
  unfold kbody
  by_cases h0 : 0 < line.length
  · rw [decide_eq_true (by omega)] at t1
    let s := ds[k] % line.length
    have hs : s < line.length := Nat.mod_lt _ h0
    let before := jour (ps.take k)
    let row := recd (k + 1) line
    let rest := (jour ps).drop (before.length + row.length)
    let head := row.take (row.length - 1 - line.length)
    have hjour := h.jour
    have hbef : before.length ≤ 2000 := (h.take k).jour
    have hrow : row.length ≤ line.length + 26 := recd_len (by omega) line
    have hrow1 : line.length + 1 ≤ row.length := by
      show line.length + 1 ≤ (recd (k + 1) line).length
      unfold recd
      simp only [List.length_append, List.length_cons, List.length_nil]
      omega
    have hrest : rest.length ≤ 2000 := by
      show ((jour ps).drop _).length ≤ 2000
      rw [List.length_drop]; omega
    have hhead : head.length ≤ 300 := by
      show (row.take _).length ≤ 300
      rw [List.length_take]; omega
    let ρ2 := envK ps ds k (some (false, .str line)) (some (false, .int s)) a6 a7 a8 a9 a10 a11
    let ρ3 := envK ps ds k (some (false, .str line)) (some (false, .int s)) (some (false, .str before)) a7 a8 a9 a10 a11
    let ρ4 := envK ps ds k (some (false, .str line)) (some (false, .int s)) (some (false, .str before)) (some (false, .str row)) a8 a9 a10 a11
    let ρ5 := envK ps ds k (some (false, .str line)) (some (false, .int s)) (some (false, .str before)) (some (false, .str row)) (some (false, .str rest)) a9 a10 a11
    let ρ6 := envK ps ds k (some (false, .str line)) (some (false, .int s)) (some (false, .str before)) (some (false, .str row)) (some (false, .str rest)) (some (false, .str head)) a10 a11
    have cI : ∀ (n : Nat) (ρ : Ro), eC (.int n) ρ = .ok (.cl, .int (n : Int)) := fun _ _ => rfl
    have e5 : op2 gMod (op2 gIx (eVar 1) (eVar 3)) (op1 gLen (eVar 4)) ρ1 = .ok (.cl, .int (s : Nat)) := by
      refine op2_ok (ixN_ok (ds := ds) (k := .cl) (k2 := .cl) (i := k) rfl rfl (by omega)) (lenS (k := .cl) (x := line) rfl (by omega)) ?_
      exact (gMod_i (by omega)).trans (congrArg (fun z => R.ok (Kd.cl, D.int z)) (Int.natCast_emod _ _).symm)
    have e6 : eCall F__law_journal 1 (aCons (eSl (eVar 0) (oSome (eC (.int 0))) (oSome (eVar 3))) aNil) ρ2 = .ok (.cl, .str before) := by
      have := slToL (ρ := ρ2) (fa := eVar 0) (fh := eVar 3) (k := .cl) (k2 := .cl) (x := ps.map D.str) (n := k) rfl rfl
      rw [← List.map_take] at this
      exact eCall_ok (aCons_ok this rfl) rfl rfl (e_ljournal _ (h.take k).sm) rfl
    have e7 : eCall F__law_record 2 (aCons (op2 gAdd (eVar 3) (eC (.int 1))) (aCons (eVar 4) aNil)) ρ3 = .ok (.cl, .str row) :=
      eCall_ok (aCons_ok (addN (x := k) (k := .cl) rfl (cI 1 ρ3)) (aCons_ok rfl rfl)) rfl rfl (e_lrecord (k + 1) line (by omega) (by omega)) rfl
    have e8 : eSl (eVar 2) (oSome (op2 gAdd (op1 gLen (eVar 6)) (op1 gLen (eVar 7)))) oNo ρ4 = .ok (.cl, .str rest) :=
      slFrom (k := .cl) (x := jour ps) rfl (addN (lenS (k := .cl) (x := before) rfl (by omega)) (lenS (k := .cl) (x := row) rfl (by omega))) (by omega)
    have e9 : eSl (eVar 7) (oSome (eC (.int 0))) (oSome (op2 gSub (op2 gSub (op1 gLen (eVar 7)) (eC (.int 1))) (op1 gLen (eVar 4)))) ρ5 = .ok (.cl, .str head) := by
      refine slTo (k := .cl) (k2 := .cl) (x := row) (n := row.length - 1 - line.length) rfl ?_ (by omega)
      refine op2_ok (op2_ok (g := gSub) (lenS (k := .cl) (x := row) rfl (by omega)) (cI 1 ρ5) gSub_i) (lenS (k := .cl) (x := line) rfl (by omega)) ?_
      exact gSub_i.trans (congrArg (fun z => R.ok (Kd.cl, D.int z)) (by omega))
    obtain ⟨y, d1, d2, d3⟩ := e_drawn (ds[k + 8]'(by omega) : Nat) 3 (by decide)
    have e10 : iVal (op2 gAdd (eCall F__law_drawn 2 (aCons (op2 gIx (eVar 1) (op2 gAdd (eVar 3) (eC (.int 8)))) (aCons (eC (.int 3)) aNil))) (eC (.str [32, 126, 44]))) ρ6 = .ok (false, (y ++ [32, 126, 44]).map fun c => D.str [c]) := by
      have c1 : eCall F__law_drawn 2 (aCons (op2 gIx (eVar 1) (op2 gAdd (eVar 3) (eC (.int 8)))) (aCons (eC (.int 3)) aNil)) ρ6 = .ok (.cl, .str y) :=
        eCall_ok (aCons_ok (ixN_ok (ds := ds) (k := .cl) (i := k + 8) rfl (addN (x := k) (k := .cl) rfl (cI 8 ρ6)) (by omega)) (aCons_ok rfl rfl)) rfl rfl d1 rfl
      have c2 := addS (y := [32, 126, 44]) (k2 := .cl) (fl := eC (.str [32, 126, 44])) c1 rfl (by rw [d2]; decide)
      unfold iVal
      rw [c2]
      rfl
    have hcs : prn (y ++ [32, 126, 44]) = true := by
      unfold prn at d3 ⊢
      rw [List.all_append, d3]
      decide
    have hq : ∀ b, prn b = true → chk b ≠ chk line → pin 1 (rows (before ++ head ++ b ++ [10] ++ rest)) = ps.take k := fun b hb hne => by
      have hlen : (ps.take k).length = k := by rw [List.length_take]; omega
      have := pin_spoilt (ps := ps.take k) (fun p hp => ⟨((h.take k).2 p hp).1, by have := ((h.take k).2 p hp).2; omega⟩) (rest := rest) hb hne
      rw [hlen] at this
      have hh : head = TL.numL (k + 1) ++ 44 :: (TL.numL (chk line) ++ [44]) := take_recd k line
      have ez : before ++ head ++ b ++ [10] ++ rest = jour (ps.take k) ++ ((TL.numL (k + 1) ++ 44 :: (TL.numL (chk line) ++ 44 :: b)) ++ 10 :: rest) := by
        rw [hh]
        show jour (ps.take k) ++ _ ++ b ++ [10] ++ rest = _
        simp only [List.append_assoc, List.cons_append, List.nil_append]
      rw [ez]
      exact this
    obtain ⟨sg, l1⟩ := sg_loop (ps := ps) (ds := ds) (row := row) (by omega) hk hs hl (by omega : before.length ≤ 100000) (by omega : head.length ≤ 1000) (by omega : rest.length ≤ 100000) a11 hq hpl (y ++ [32, 126, 44]) a10 hcs
    obtain ⟨tn, l2⟩ := tr_turn (ps := ps) (Dr := numD ds) (text := jour ps) (row := row) (by omega) hk hs hl (by omega : before.length ≤ 100000) (by omega : head.length ≤ 1000) (by omega : rest.length ≤ 100000) sg a11 hq hpl
    refine ⟨some (false, .str line), some (false, .int s), some (false, .str before), some (false, .str row), some (false, .str rest), some (false, .str head), sg, tn, ?_⟩
    refine sSeq_n (ρ1 := ρ1) (sSet_c g4) (sIf_t t1 ?_)
    refine sSeq_n (ρ1 := ρ2) (sSet_c e5) ?_
    refine sSeq_n (ρ1 := ρ3) (sSet_c e6) ?_
    refine sSeq_n (ρ1 := ρ4) (sSet_c e7) ?_
    refine sSeq_n (ρ1 := ρ5) (sSet_c e8) ?_
    refine sSeq_n (ρ1 := ρ6) (sSet_c e9) ?_
    exact sSeq_n (sFor_ok e10 l1) l2
  · rw [decide_eq_false (by omega)] at t1
    exact ⟨some (false, .str line), a5, a6, a7, a8, a9, a10, a11, sSeq_n (ρ1 := ρ1) (sSet_c g4) (sIf_f t1 rfl)⟩
theorem k_loop (h : Lines ps) (hd : 16 ≤ ds.length) : ∀ (m i : Nat) (a3 a4 a5 a6 a7 a8 a9 a10 a11 : Sl), i + m = ps.length →
    ∃ ρ', forL (gNm 3) kbody ((List.range' i m).map fun k : Nat => D.int k) [some (false, .lst (ps.map D.str)), some (false, numD ds), some (false, .str (jour ps)), a3, a4, a5, a6, a7, a8, a9, a10, a11] = .nx ρ'
  | 0, i, a3, a4, a5, a6, a7, a8, a9, a10, a11, _ => ⟨_, rfl⟩
  | m + 1, i, a3, a4, a5, a6, a7, a8, a9, a10, a11, hi => by
    obtain ⟨b4, b5, b6, b7, b8, b9, b10, b11, ht⟩ := k_turn h hd (k := i) (by omega) a4 a5 a6 a7 a8 a9 a10 a11
    obtain ⟨ρ', ih⟩ := k_loop h hd m (i + 1) (some (false, .int i)) b4 b5 b6 b7 b8 b9 b10 b11 (by omega)
    refine ⟨ρ', ?_⟩
    rw [List.range'_succ, List.map_cons]
    exact forL_n (ρ1 := envK ps ds i a4 a5 a6 a7 a8 a9 a10 a11) rfl ht ih
theorem e_spoilt (h : Lines ps) (hd : 16 ≤ ds.length) : F__law_spoilt_rows [.lst (ps.map D.str), numD ds] = .ok (.cl, .bl true) := by
  have h8 := h.1
  let ρ0 : Ro := [some (false, .lst (ps.map D.str)), some (false, numD ds), none, none, none, none, none, none, none, none, none, none]
  let ρ1 : Ro := [some (false, .lst (ps.map D.str)), some (false, numD ds), some (false, .str (jour ps)), none, none, none, none, none, none, none, none, none]
  refine fn_ok (ρ0 := ρ0) (s := .rt (.cl, .bl true)) rfl rfl ?_ rfl
  obtain ⟨ρ', hl⟩ := k_loop h hd ps.length 0 none none none none none none none none none (by omega)
  rw [B_spoilt]
  have e2 : eCall F__law_journal 1 (aCons (eVar 0) aNil) ρ0 = .ok (.cl, .str (jour ps)) := eCall_ok (aCons_ok rfl rfl) rfl rfl (e_ljournal _ h.sm) rfl
  have r : iRng (op1 gLen (eVar 0)) ρ1 = .ok (false, (List.range' 0 ps.length).map fun k : Nat => D.int k) := by
    refine iRng_ok (k := .cl) (op1_ok (k1 := .cl) (x := .lst (ps.map D.str)) rfl ?_) (by omega)
    show R.ok (Kd.cl, D.int ((ps.map D.str).length : Nat)) = _
    rw [List.length_map]
  exact sSeq_n (ρ1 := ρ1) (sSet_c e2) (sSeq_n (sFor_ok r hl) rfl)
end
end PL
set_option Elab.async false
set_option linter.all false
set_option maxRecDepth 100000
set_option maxHeartbeats 4000000
/-! Mk62h: the tried texts: only that they are texts, and how long. -/
namespace PL
open PySem PySem.Spec L2

def Tx (ρ : Ro) (f : EF) (n : Nat) : Prop := ∃ x : List Nat, f ρ = .ok (.cl, .str x) ∧ x.length ≤ n
def Ls (ρ : Ro) (f : EF) (c n : Nat) : Prop := ∃ k, ∃ xs : List (List Nat), f ρ = .ok (k, .lst (xs.map D.str)) ∧ xs.length ≤ c ∧ ∀ x ∈ xs, x.length ≤ n
def Nm (ρ : Ro) (f : EF) (n : Nat) : Prop := ∃ k, ∃ v : Nat, f ρ = .ok (k, .int v) ∧ v ≤ n
def TxA (ρ : Ro) (fs : AF) (c n : Nat) : Prop := ∃ es : List Ev, ∃ xs : List (List Nat), fs ρ = .ok es ∧ es.map (·.2) = xs.map D.str ∧ es.all okE = true ∧ xs.length = c ∧ ∀ x ∈ xs, x.length ≤ n
section
variable {ρ : Ro} {a b c : EF} {n m c1 c2 : Nat} {fs : AF}
theorem Tx.mono (h : Tx ρ a n) (k : n ≤ m) : Tx ρ a m := let ⟨x, e, l⟩ := h; ⟨x, e, Nat.le_trans l k⟩
theorem Tx.add (h1 : Tx ρ a n) (h2 : Tx ρ b m) (hz : n + m ≤ 16777216) : Tx ρ (op2 gAdd a b) (n + m) := by
  obtain ⟨x, e, l⟩ := h1
  obtain ⟨y, e', l'⟩ := h2
  exact ⟨_, addS e e' (by omega), by rw [List.length_append]; omega⟩
theorem Tx.con (x : List Nat) : Tx ρ (eC (.str x)) x.length := ⟨_, rfl, Nat.le_refl _⟩
theorem Nm.con (x : Nat) : Nm ρ (eC (.int (x : Int))) x := ⟨_, _, rfl, Nat.le_refl _⟩
theorem Nm.add (h1 : Nm ρ a n) (h2 : Nm ρ b m) : Nm ρ (op2 gAdd a b) (n + m) := by
  obtain ⟨q, x, e, l⟩ := h1
  obtain ⟨q', y, e', l'⟩ := h2
  exact ⟨_, _, addN e e', by omega⟩
theorem Tx.to (h1 : Tx ρ a n) (h2 : Nm ρ b m) (hz : n ≤ 16777216) : Tx ρ (eSl a (oSome (eC (.int 0))) (oSome b)) n := by
  obtain ⟨x, e, l⟩ := h1
  obtain ⟨q', y, e', l'⟩ := h2
  exact ⟨_, slTo e e' (by omega), by rw [List.length_take]; omega⟩
theorem Tx.from (h1 : Tx ρ a n) (h2 : Nm ρ b m) (hz : n ≤ 16777216) : Tx ρ (eSl a (oSome b) oNo) n := by
  obtain ⟨x, e, l⟩ := h1
  obtain ⟨q', y, e', l'⟩ := h2
  exact ⟨_, slFrom e e' (by omega), by rw [List.length_drop]; omega⟩
theorem Nm.len (h : Tx ρ a n) (hz : n ≤ 16777216) : Nm ρ (op1 gLen a) n := by
  obtain ⟨x, e, l⟩ := h
  exact ⟨_, _, lenS e (by omega), l⟩
theorem Nm.lenL (h : Ls ρ a c1 n) : Nm ρ (op1 gLen a) c1 := by
  obtain ⟨q, x, e, l, _⟩ := h
  refine ⟨.cl, x.length, op1_ok e ?_, l⟩
  show R.ok (Kd.cl, D.int ((x.map D.str).length : Nat)) = _
  rw [List.length_map]
theorem Nm.mod (h1 : Nm ρ a n) (h2 : ∃ k, ∃ v : Nat, b ρ = .ok (k, .int v) ∧ 0 < v ∧ v ≤ m + 1) : Nm ρ (op2 gMod a b) m := by
  obtain ⟨q, x, e, l⟩ := h1
  obtain ⟨q', y, e', l0, l'⟩ := h2
  refine ⟨.cl, x % y, op2_ok e e' ((gMod_i (by omega)).trans (congrArg (fun z => R.ok (Kd.cl, D.int z)) (Int.natCast_emod _ _).symm)), ?_⟩
  have := Nat.mod_lt x l0
  omega
theorem pos_add (h1 : Nm ρ a n) (hm : 0 < m) : ∃ k, ∃ v : Nat, op2 gAdd a (eC (.int (m : Int))) ρ = .ok (k, .int v) ∧ 0 < v ∧ v ≤ n + m := by
  obtain ⟨q, x, e, l⟩ := h1
  exact ⟨_, _, addN e (k2 := .cl) (y := m) rfl, by omega, by omega⟩
theorem Nm.ix {ds : List Nat} (h1 : ∃ k, a ρ = .ok (k, numD ds)) (h2 : ∃ k, b ρ = .ok (k, .int (m : Nat))) (hm : m < ds.length) : Nm ρ (op2 gIx a b) (ds[m]) := by
  obtain ⟨k, e⟩ := h1
  obtain ⟨k', e'⟩ := h2
  exact ⟨_, _, ixN_ok e e' hm, Nat.le_refl _⟩
theorem Ls.add (h1 : Ls ρ a c1 n) (h2 : Ls ρ b c2 n) (hz : c1 + c2 ≤ 16777216) : Ls ρ (op2 gAdd a b) (c1 + c2) n := by
  obtain ⟨q, x, e, l, w⟩ := h1
  obtain ⟨q', y, e', l', w'⟩ := h2
  refine ⟨.fr, x ++ y, op2_ok e e' ?_, by rw [List.length_append]; omega, fun z hz => (List.mem_append.mp hz).elim (w z) (w' z)⟩
  rw [gAdd_l (by rw [List.length_map, List.length_map]; omega), List.map_append]
theorem Ls.to (h1 : Ls ρ a c1 n) (h2 : Nm ρ b m) : Ls ρ (eSl a (oSome (eC (.int 0))) (oSome b)) c1 n := by
  obtain ⟨q, x, e, l, w⟩ := h1
  obtain ⟨q', y, e', l'⟩ := h2
  exact ⟨.fr, x.take y, by rw [slToL e e', List.map_take], by rw [List.length_take]; omega, fun z hz => w z (List.mem_of_mem_take hz)⟩
theorem Ls.from (h1 : Ls ρ a c1 n) (h2 : Nm ρ b m) : Ls ρ (eSl a (oSome b) oNo) c1 n := by
  obtain ⟨q, x, e, l, w⟩ := h1
  obtain ⟨q', y, e', l'⟩ := h2
  exact ⟨.fr, x.drop y, by rw [slFromL e e', List.map_drop], by rw [List.length_drop]; omega, fun z hz => w z (List.mem_of_mem_drop hz)⟩
theorem Ls.mid {m' : Nat} (h1 : Ls ρ a c1 n) (h2 : Nm ρ b m) (h3 : Nm ρ c m') : Ls ρ (eSl a (oSome b) (oSome c)) c1 n := by
  obtain ⟨q, x, e, l, w⟩ := h1
  obtain ⟨q', y, e', l'⟩ := h2
  obtain ⟨q2, y2, e2, l2⟩ := h3
  refine ⟨.fr, (x.take y2).drop y, ?_, by rw [List.length_drop, List.length_take]; omega, fun z hz => w z (List.mem_of_mem_take (List.mem_of_mem_drop hz))⟩
  unfold eSl
  rw [e, R.bind_ok]
  unfold oSome
  rw [e', R.bind_ok]
  show (R.ok (some (y : Int))).bind _ = _
  rw [R.bind_ok, e2, R.bind_ok]
  show R.ok (Kd.fr, D.lst (cutL (x.map D.str) (some (y : Int)) (some (y2 : Int)))) = _
  rw [cut_mid, List.map_drop, List.map_take]
theorem Ls.rev (h1 : Ls ρ a c1 n) : Ls ρ (eRev a) c1 n := by
  obtain ⟨q, x, e, l, w⟩ := h1
  refine ⟨.fr, x.reverse, op1_ok e ?_, by rw [List.length_reverse]; exact l, fun z hz => w z (List.mem_reverse.mp hz)⟩
  rw [List.map_reverse]
theorem sum_le {n : Nat} : ∀ xs : List (List Nat), (∀ x ∈ xs, x.length ≤ n) → (xs.map List.length).sum ≤ xs.length * n
  | [], _ => by simp
  | x :: r, h => by
    have h1 := h x List.mem_cons_self
    have h2 := sum_le r fun y hy => h y (List.mem_cons_of_mem _ hy)
    rw [List.map_cons, List.sum_cons, List.length_cons, Nat.add_mul]
    omega
theorem Tx.join (h1 : Ls ρ a c1 n) (hz : c1 * n ≤ 16777216) : Tx ρ (mth1 gJoin (eC (.str [])) a) (c1 * n) := by
  obtain ⟨q, x, e, l, w⟩ := h1
  have h2 := sum_le x w
  have h3 : x.length * n ≤ c1 * n := Nat.mul_le_mul_right _ l
  refine ⟨x.flatten, mth1_ok (k1 := .cl) (a := []) rfl e ?_, by rw [List.length_flatten]; omega⟩
  rw [gJoin_l (by unfold joinSize; simp only [List.length_nil, Nat.mul_zero, Nat.add_zero]; omega), joinL_nil]
theorem TxA.nil : TxA ρ aNil 0 n := ⟨[], [], rfl, rfl, rfl, rfl, fun _ h => absurd h List.not_mem_nil⟩
theorem TxA.cons {k : Nat} (h : Tx ρ a k) (hk : k ≤ n) (hs : TxA ρ fs c1 n) : TxA ρ (aCons a fs) (c1 + 1) n := by
  obtain ⟨x, e, l⟩ := h
  obtain ⟨es, xs, e1, e2, e3, e4, e5⟩ := hs
  refine ⟨(.cl, .str x) :: es, x :: xs, aCons_ok e e1, by rw [List.map_cons, List.map_cons, e2], ?_, by rw [List.length_cons, e4], fun y hy => (List.mem_cons.mp hy).elim (fun z => by rw [z]; omega) (e5 y)⟩
  rw [List.all_cons, e3, Bool.and_true]
  rfl
theorem Ls.disp (h : TxA ρ fs c1 n) (hz : c1 ≤ 16777216) : ∃ xs : List (List Nat), disp (fun ds => (.fr, .lst ds)) fs ρ = .ok (.fr, .lst (xs.map D.str)) ∧ xs.length ≤ c1 ∧ ∀ x ∈ xs, x.length ≤ n := by
  obtain ⟨es, xs, e1, e2, e3, e4, e5⟩ := h
  refine ⟨xs, disp_ok e1 e3 ?_ e2, by omega, e5⟩
  have := congrArg List.length e2
  rw [List.length_map, List.length_map] at this
  omega
theorem Ls.of (h : ∃ xs : List (List Nat), a ρ = .ok (.fr, .lst (xs.map D.str)) ∧ xs.length ≤ c1 ∧ ∀ x ∈ xs, x.length ≤ n) : Ls ρ a c1 n := let ⟨xs, e, l, w⟩ := h; ⟨_, xs, e, l, w⟩
/-- what a + of two lists is -/
theorem Ls.addF (h1 : Ls ρ a c1 n) (h2 : Ls ρ b c2 n) (hz : c1 + c2 ≤ 16777216) : ∃ xs : List (List Nat), op2 gAdd a b ρ = .ok (.fr, .lst (xs.map D.str)) ∧ xs.length ≤ c1 + c2 ∧ ∀ x ∈ xs, x.length ≤ n := by
  obtain ⟨q, x, e, l, w⟩ := h1
  obtain ⟨q', y, e', l', w'⟩ := h2
  refine ⟨x ++ y, op2_ok e e' ?_, by rw [List.length_append]; omega, fun z hz => (List.mem_append.mp hz).elim (w z) (w' z)⟩
  rw [gAdd_l (by rw [List.length_map, List.length_map]; omega), List.map_append]
end

/-! ### a bent text -/
theorem e_bent {text ds : List Nat} {q : Nat} (ht : text.length ≤ 100000) (hq : q + 2 < ds.length) : ∃ z : List Nat, F__law_bent [.str text, numD ds, .int q] = .ok (.cl, .str z) ∧ z.length ≤ 200001 := by
  let sg : List Nat := [48, 49, 50, 51, 52, 53, 54, 55, 56, 57, 32, 10, 44, 47, 34, 92, 97, 98, 100, 110, 116, 64, 42, 124, 126]
  let spot := ds[q] % (text.length + 1)
  let i := ds[q + 1] % sg.length
  have hi : i < sg.length := Nat.mod_lt _ (by decide)
  let kd := ds[q + 2] % 7
  have cI : ∀ (n : Nat) (ρ : Ro), eC (.int n) ρ = .ok (.cl, .int (n : Int)) := fun _ _ => rfl
  let ρ0 : Ro := [some (false, .str text), some (false, numD ds), some (false, .int q), none, none, none, none]
  let ρ1 : Ro := [some (false, .str text), some (false, numD ds), some (false, .int q), some (false, .str sg), none, none, none]
  let ρ2 : Ro := [some (false, .str text), some (false, numD ds), some (false, .int q), some (false, .str sg), some (false, .int spot), none, none]
  let ρ3 : Ro := [some (false, .str text), some (false, numD ds), some (false, .int q), some (false, .str sg), some (false, .int spot), some (false, .str [sg[i]]), none]
  let ρ : Ro := [some (false, .str text), some (false, numD ds), some (false, .int q), some (false, .str sg), some (false, .int spot), some (false, .str [sg[i]]), some (false, .int kd)]
  have md : ∀ {ρ : Ro} {fa fb : EF} {k k2 : Kd} {x y : Nat}, fa ρ = .ok (k, .int x) → fb ρ = .ok (k2, .int y) → 0 < y → op2 gMod fa fb ρ = .ok (.cl, .int ((x % y : Nat) : Int)) := fun h1 h2 h3 => op2_ok h1 h2 ((gMod_i (by omega)).trans (congrArg (fun z => R.ok (Kd.cl, D.int z)) (Int.natCast_emod _ _).symm))
  have e4 : op2 gMod (op2 gIx (eVar 1) (eVar 2)) (op2 gAdd (op1 gLen (eVar 0)) (eC (.int 1))) ρ1 = .ok (.cl, .int (spot : Nat)) :=
    md (ixN_ok (ds := ds) (k := .cl) (k2 := .cl) (i := q) rfl rfl (by omega)) (addN (lenS (k := .cl) (x := text) rfl (by omega)) (cI 1 ρ1)) (by omega)
  have e5 : op2 gIx (eVar 3) (op2 gMod (op2 gIx (eVar 1) (op2 gAdd (eVar 2) (eC (.int 1)))) (op1 gLen (eVar 3))) ρ2 = .ok (.cl, .str [sg[i]]) :=
    ixS (k := .cl) (x := sg) rfl (md (ixN_ok (ds := ds) (k := .cl) (i := q + 1) rfl (addN (k := .cl) (x := q) rfl (cI 1 ρ2)) (by omega)) (lenS (k := .cl) (x := sg) rfl (by decide)) (by decide)) (by decide) (List.getElem?_eq_getElem hi)
  have e6 : op2 gMod (op2 gIx (eVar 1) (op2 gAdd (eVar 2) (eC (.int 2)))) (eC (.int 7)) ρ3 = .ok (.cl, .int (kd : Nat)) :=
    md (ixN_ok (ds := ds) (k := .cl) (i := q + 2) rfl (addN (k := .cl) (x := q) rfl (cI 2 ρ3)) (by omega)) (cI 7 ρ3) (by decide)
  have v0 : eVar 0 ρ = .ok (.cl, .str text) := rfl
  have v4 : eVar 4 ρ = .ok (.cl, .int spot) := rfl
  have v5 : eVar 5 ρ = .ok (.cl, .str [sg[i]]) := rfl
  have v6 : eVar 6 ρ = .ok (.cl, .int kd) := rfl
  have T0 : Tx ρ (eVar 0) 100000 := ⟨_, v0, ht⟩
  have N4 : Nm ρ (eVar 4) spot := ⟨_, _, v4, Nat.le_refl _⟩
  have T5 : Tx ρ (eVar 5) 1 := ⟨_, v5, Nat.le_refl _⟩
  have N41 : Nm ρ (op2 gAdd (eVar 4) (eC (.int 1))) (spot + 1) := N4.add (Nm.con 1)
  have N5 : Nm ρ (op2 gMod (op2 gIx (eVar 1) (op2 gAdd (eVar 2) (eC (.int 1)))) (op2 gAdd (op1 gLen (eVar 0)) (eC (.int 1)))) 100000 :=
    Nm.mod (Nm.ix (ds := ds) (m := q + 1) ⟨.cl, rfl⟩ ⟨.cl, addN (k := .cl) (x := q) rfl (cI 1 ρ)⟩ (by omega)) (pos_add (m := 1) (Nm.len T0 (by decide)) (by decide))
  have A := T0.to N4 (by decide)
  have tq : ∀ j : Int, t2 gEq (eVar 6) (eC (.int j)) ρ = .ok ((kd : Int) == j) := fun j => t2_ok v6 (k2 := .cl) (y := .int j) rfl gEq_i
  have ret : ∀ {f : EF} {n : Nat}, Tx ρ f n → n ≤ 200001 → ∃ z : List Nat, sRet f ρ = .rt (.cl, .str z) ∧ z.length ≤ 200001 := fun {f n} ⟨x, e, l⟩ hn => ⟨x, sRet_ok e, by omega⟩
  have step : ∀ {f : EF} {n : Nat} {j : Int} {g : SF}, Tx ρ f n → n ≤ 200001 → (∃ z : List Nat, g ρ = .rt (.cl, .str z) ∧ z.length ≤ 200001) → ∃ z : List Nat, sSeq (sIf (t2 gEq (eVar 6) (eC (.int j))) (sRet f) sSkip) g ρ = .rt (.cl, .str z) ∧ z.length ≤ 200001 := fun {f n j g} h hn hg => by
    have t := tq j
    cases e : (kd : Int) == j with
    | true =>
      rw [e] at t
      obtain ⟨z, hz, hl⟩ := ret h hn
      exact ⟨z, sSeq_r (sIf_t t hz), hl⟩
    | false =>
      rw [e] at t
      obtain ⟨z, hz, hl⟩ := hg
      exact ⟨z, sSeq_n (ρ1 := ρ) (sIf_f t rfl) hz, hl⟩
  have body : ∃ z : List Nat, B__law_bent ρ0 = .rt (.cl, .str z) ∧ z.length ≤ 200001 := by
    obtain ⟨z, hz, hl⟩ := step (j := 0) (A.add (T0.from N41 (by decide)) (by decide)) (by decide) (step (j := 1) ((A.add T5 (by decide)).add (T0.from N41 (by decide)) (by decide)) (by decide) (step (j := 2) A (by decide)
      (step (j := 3) (T0.add T5 (by decide)) (by decide) (step (j := 4) (T5.add T0 (by decide)) (by decide) (step (j := 5) (A.add (T0.from N5 (by decide)) (by decide)) (by decide) (ret ((A.add T5 (by decide)).add (T0.from N4 (by decide)) (by decide)) (by decide)))))))
    refine ⟨z, ?_, hl⟩
    unfold B__law_bent
    exact sSeq_n (ρ1 := ρ1) rfl (sSeq_n (ρ1 := ρ2) (sSet_c e4) (sSeq_n (ρ1 := ρ3) (sSet_c e5) (sSeq_n (ρ1 := ρ) (sSet_c e6) hz)))
  obtain ⟨z, hz, hl⟩ := body
  exact ⟨z, fn_ok (ρ0 := ρ0) rfl rfl hz rfl, hl⟩
end PL
set_option Elab.async false
set_option linter.all false
set_option maxRecDepth 100000
set_option maxHeartbeats 4000000
/-! Mk62i: the def of the tried texts. -/
namespace PL
open PySem PySem.Spec L2

section
variable {ρ : Ro} {a b c : EF} {n m c1 c2 : Nat} {fs : AF}
theorem Tx.num (h : Nm ρ a n) (hz : n < 2 ^ 64) : Tx ρ (op1 gStr a) 20 := by
  obtain ⟨q, v, e, l⟩ := h
  exact ⟨_, op1_ok e (gStr_ok (by omega)), num_len (by omega)⟩
theorem Tx.rec (h1 : Nm ρ a n) (h2 : Tx ρ b m) (hn : n < 2 ^ 64) (hm : m ≤ 15000000) : Tx ρ (eCall F__law_record 2 (aCons a (aCons b aNil))) (m + 26) := by
  obtain ⟨q, v, e, l⟩ := h1
  obtain ⟨x, e', l'⟩ := h2
  refine ⟨recd v x, eCall_ok (aCons_ok e (aCons_ok e' rfl)) rfl rfl (e_lrecord v x (by omega) (by omega)) rfl, ?_⟩
  have := recd_len (n := v) (by omega) x
  omega
theorem Tx.rep (h : Nm ρ a n) (hn : n < 16777216) : Tx ρ (op2 gMulS (eC (.str [97])) a) n := by
  obtain ⟨q, v, e, l⟩ := h
  refine ⟨(List.replicate v [97]).flatten, op2_ok (k1 := .cl) (x := .str [97]) rfl e (gMulS_ok ⟨by omega, by simp only [List.length_cons, List.length_nil]; omega⟩), ?_⟩
  rw [List.length_flatten, List.map_replicate, List.sum_replicate_nat]
  simp only [List.length_cons, List.length_nil]
  omega
theorem Nm.pred (h : Nm ρ a n) : Nm ρ (op2 gMax2 (eC (.int 0)) (op2 gSub a (eC (.int 1)))) n := by
  obtain ⟨q, v, e, l⟩ := h
  refine ⟨.cl, v - 1, op2_ok (k1 := .cl) (x := .int 0) rfl (op2_ok e (k2 := .cl) (y := .int 1) rfl gSub_i) ?_, by omega⟩
  show R.ok (Kd.cl, D.int (if ((v : Int) - 1) > 0 then ((v : Int) - 1) else 0)) = _
  refine congrArg (fun z => R.ok (Kd.cl, D.int z)) ?_
  by_cases h : (v : Int) - 1 > 0
  · rw [if_pos h]; omega
  · rw [if_neg h]; omega
theorem Tx.bent {text ds : List Nat} {q : Nat} (h1 : a ρ = .ok (.cl, .str text)) (h2 : b ρ = .ok (.cl, numD ds)) (ht : text.length ≤ 100000) (hq : q + 2 < ds.length) : Tx ρ (eCall F__law_bent 3 (aCons a (aCons b (aCons (eC (.int q)) aNil)))) 200001 := by
  obtain ⟨z, hz, hl⟩ := e_bent (q := q) ht hq
  exact ⟨z, eCall_ok (aCons_ok h1 (aCons_ok h2 (aCons_ok rfl rfl))) rfl rfl hz rfl, hl⟩
end
theorem rows_recs : ∀ (ps : List (List Nat)) (k : Nat), (∀ p ∈ ps, prn p = true ∧ p.length < 200) → k + ps.length < 2 ^ 60 → (rows (recs k ps).flatten).length = ps.length ∧ ∀ r ∈ rows (recs k ps).flatten, r.length ≤ 225
  | [], k, _, _ => ⟨rfl, fun r hr => absurd (show r ∈ ([] : List (List Nat)) from hr) List.not_mem_nil⟩
  | p :: ps, k, h, hk => by
    have hp := h p List.mem_cons_self
    rw [List.length_cons] at hk
    obtain ⟨h1, h2⟩ := rows_recs ps (k + 1) (fun q hq => h q (List.mem_cons_of_mem _ hq)) (by omega)
    have e : (recs k (p :: ps)).flatten = bodyR (k + 1) p ++ 10 :: (recs (k + 1) ps).flatten := by
      show (recd (k + 1) p ++ (recs (k + 1) ps).flatten) = _
      rw [recd_body]
      simp only [List.append_assoc, List.cons_append, List.nil_append]
    rw [e, rows_cons (show 10 ∉ bodyR (k + 1) p from body_10 hp.1)]
    refine ⟨by rw [List.length_cons, h1, List.length_cons], fun r hr => ?_⟩
    rcases List.mem_cons.mp hr with z | z
    · rw [z]
      have := recd_len (n := k + 1) (by omega) p
      rw [recd_body, List.length_append, List.length_singleton] at this
      omega
    · exact h2 r z
theorem e_texts {ps : List (List Nat)} {ds : List Nat} (h : Lines ps) (hd : 16 ≤ ds.length) : ∃ ts : List (List Nat), F__law_texts [.lst (ps.map D.str), numD ds] = .ok (.fr, .lst (ts.map D.str)) ∧ ts.length ≤ 100 ∧ ∀ t ∈ ts, t.length ≤ 300000 := by
  have h8 := h.1
  have hj := h.jour
  let L : Sl := some (false, .lst (ps.map D.str))
  let Q : Sl := some (false, numD ds)
  let text := jour ps
  have htx : text.length ≤ 2000 := hj
  let at' := ds[0] % (ps.length + 1)
  have hat : at' ≤ 8 := by
    have := Nat.mod_lt ds[0] (show 0 < ps.length + 1 by omega)
    show ds[0] % (ps.length + 1) ≤ 8
    omega
  let rest := jour (ps.take at')
  have hrest : rest.length ≤ 2000 := (h.take at').jour
  let rr := (rows text).map fun r => r ++ [10]
  obtain ⟨r1, r2⟩ := rows_recs ps 0 h.2 (by omega)
  have hr1 : rr.length ≤ 8 := by
    show ((rows (recs 0 ps).flatten).map _).length ≤ 8
    rw [List.length_map, r1]; exact h8
  have hr2 : ∀ r ∈ rr, r.length ≤ 226 := fun r hr => by
    obtain ⟨z, hz, e⟩ := List.mem_map.mp hr
    rw [← e, List.length_append, List.length_singleton]
    have := r2 z hz
    omega
  have cI : ∀ (n : Nat) (ρ : Ro), eC (.int n) ρ = .ok (.cl, .int (n : Int)) := fun _ _ => rfl
  let ρ0 : Ro := [L, Q, none, none, none, none, none, none]
  let ρ1 : Ro := [L, Q, some (false, .str text), none, none, none, none, none]
  let ρ2 : Ro := [L, Q, some (false, .str text), some (false, .int at'), none, none, none, none]
  let ρ3 : Ro := [L, Q, some (false, .str text), some (false, .int at'), some (false, .str rest), none, none, none]
  let ρ4 : Ro := [L, Q, some (false, .str text), some (false, .int at'), some (false, .str rest), some (true, .lst (rr.map D.str)), none, none]
  have e2 : eCall F__law_journal 1 (aCons (eVar 0) aNil) ρ0 = .ok (.cl, .str text) := eCall_ok (aCons_ok rfl rfl) rfl rfl (e_ljournal _ h.sm) rfl
  have hlenL : ∀ {ρ : Ro}, eVar 0 ρ = .ok (.cl, .lst (ps.map D.str)) → op1 gLen (eVar 0) ρ = .ok (.cl, .int (ps.length : Nat)) := fun {ρ} h0 => by
    refine op1_ok h0 ?_
    show R.ok (Kd.cl, D.int ((ps.map D.str).length : Nat)) = _
    rw [List.length_map]
  have e3 : op2 gMod (op2 gIx (eVar 1) (eC (.int 0))) (op2 gAdd (op1 gLen (eVar 0)) (eC (.int 1))) ρ1 = .ok (.cl, .int (at' : Nat)) :=
    op2_ok (ixN_ok (ds := ds) (k := .cl) (i := 0) rfl (cI 0 ρ1) (by omega)) (addN (hlenL rfl) (cI 1 ρ1)) ((gMod_i (by omega)).trans (congrArg (fun z => R.ok (Kd.cl, D.int z)) (Int.natCast_emod _ _).symm))
  have e4 : eCall F__law_journal 1 (aCons (eSl (eVar 0) (oSome (eC (.int 0))) (oSome (eVar 3))) aNil) ρ2 = .ok (.cl, .str rest) := by
    have := slToL (ρ := ρ2) (fa := eVar 0) (fh := eVar 3) (k := .cl) (k2 := .cl) (x := ps.map D.str) (n := at') rfl rfl
    rw [← List.map_take] at this
    exact eCall_ok (aCons_ok this rfl) rfl rfl (e_ljournal _ (h.take at').sm) rfl
  have e5 : lcF (iVal (eSl (mth1 gSplit (eVar 2) (eC (.str [10]))) (oNo) (oSome (eNeg (eC (.int 1)))))) [6] (gNm 6) (tYesF) (op2 gAdd (eVar 6) (eC (.str [10]))) ρ3 = .ok (.fr, .lst (rr.map D.str)) := by
    refine lcF_ok (split_rows (k := .cl) (s := text) rfl (by omega)) (by rw [List.length_map]; show (rows (recs 0 ps).flatten).length ≤ _; rw [r1]; omega) ?_
    show lcA _ ((rows text).map D.str) = .ok (((rows text).map fun r => r ++ [10]).map D.str)
    rw [lcA_map (g := fun r => D.str (r ++ [10])), List.map_map]
    · rfl
    · intro r hr
      have := r2 r hr
      exact turn_ok (ρ1 := [L, Q, some (false, .str text), some (false, .int at'), some (false, .str rest), none, some (false, .str r), none]) rfl rfl (e := (.cl, .str (r ++ [10]))) (addS (k := .cl) (k2 := .cl) (x := r) (y := [10]) rfl rfl (by simp only [List.length_cons, List.length_nil]; omega)) rfl
  -- the common parts, with any list of found ones
  let ρF (fs : Sl) : Ro := [L, Q, some (false, .str text), some (false, .int at'), some (false, .str rest), some (true, .lst (rr.map D.str)), none, fs]
  have T2 : ∀ fs, Tx (ρF fs) (eVar 2) 2000 := fun fs => ⟨_, rfl, hj⟩
  have N3 : ∀ fs, Nm (ρF fs) (eVar 3) 8 := fun fs => ⟨.cl, _, rfl, hat⟩
  have T4 : ∀ fs, Tx (ρF fs) (eVar 4) 2000 := fun fs => ⟨_, rfl, hrest⟩
  have L5 : ∀ fs, Ls (ρF fs) (eVar 5) 8 226 := fun fs => ⟨.pk, rr, rfl, hr1, hr2⟩
  have N31 : ∀ fs, Nm (ρF fs) (op2 gAdd (eVar 3) (eC (.int 1))) 9 := fun fs => (N3 fs).add (Nm.con 1)
  have N32 : ∀ fs, Nm (ρF fs) (op2 gAdd (eVar 3) (eC (.int 2))) 10 := fun fs => (N3 fs).add (Nm.con 2)
  have N4 : ∀ fs, Nm (ρF fs) (op1 gLen (eVar 4)) 2000 := fun fs => Nm.len (T4 fs) (by decide)
  have Nr : ∀ fs, Nm (ρF fs) (op2 gMod (op2 gIx (eVar 1) (eC (.int 1))) (op2 gAdd (op1 gLen (eVar 2)) (eC (.int 1)))) 2000 := fun fs => Nm.mod (Nm.ix (ds := ds) (m := 1) ⟨.cl, rfl⟩ ⟨.cl, rfl⟩ (by omega)) (pos_add (m := 1) (Nm.len (T2 fs) (by decide)) (by decide))
  have F : ∀ {fs : Sl} {xs : List (List Nat)} {n : Nat}, fs = some (true, .lst (xs.map D.str)) → xs.length ≤ n → (∀ x ∈ xs, x.length ≤ 300000) → Ls (ρF fs) (eVar 7) n 300000 := fun {fs xs n} e l w => by
    subst e
    exact ⟨.pk, xs, rfl, l, w⟩
  -- found
  obtain ⟨f1, g1, l1, w1⟩ := Ls.disp (n := 300000) (TxA.cons (T2 none) (by decide) (TxA.cons ((T2 none).to (Nr none) (by decide)) (by decide) (TxA.cons ((T4 none).add (T2 none) (by decide)) (by decide) (TxA.cons ((T2 none).add (Tx.con [10]) (by decide)) (by decide)
    (TxA.cons (Tx.con []) (by decide) (TxA.cons ((T4 none).to (N4 none).pred (by decide)) (by decide) (TxA.cons (Tx.join (Ls.rev (L5 none)) (by decide)) (by decide) (TxA.cons (Tx.join (Ls.add (Ls.to (L5 none) (N3 none)) (Ls.from (L5 none) (N31 none)) (by decide)) (by decide)) (by decide) TxA.nil)))))))) (by decide)
  let s1 : Sl := some (true, .lst (f1.map D.str))
  obtain ⟨f2, g2, l2, w2⟩ := Ls.addF (F (fs := s1) rfl l1 w1) (Ls.of (Ls.disp (n := 300000) (TxA.cons (((T4 s1).add (Tx.con [48]) (by decide)).add ((T2 s1).from (N4 s1) (by decide)) (by decide)) (by decide) (TxA.cons (((T4 s1).add (Tx.con [32]) (by decide)).add ((T2 s1).from (N4 s1) (by decide)) (by decide)) (by decide)
    (TxA.cons (((T4 s1).add (Tx.num (N31 s1) (by decide)) (by decide)).add (Tx.con [44, 48, 44, 10]) (by decide)) (by decide) (TxA.cons (Tx.con [49, 44, 48, 44, 10]) (by decide) (TxA.cons (Tx.con [49, 44, 48, 10]) (by decide) (TxA.cons (Tx.con [49, 44, 57, 55, 44, 97, 10]) (by decide) (TxA.cons (Tx.con [49, 44, 48, 57, 55, 44, 97, 10]) (by decide) (TxA.cons (Tx.con [49, 44, 57, 56, 44, 97, 10]) (by decide) (TxA.cons (Tx.con [48, 49, 44, 57, 55, 44, 97, 10]) (by decide) TxA.nil))))))))) (by decide))) (by decide)
  let s2 : Sl := some (true, .lst (f2.map D.str))
  obtain ⟨f3, g3, l3, w3⟩ := Ls.addF (F (fs := s2) rfl l2 w2) (Ls.of (Ls.disp (n := 300000) (TxA.cons (Tx.con [50, 44, 57, 55, 44, 97, 10]) (by decide) (TxA.cons (Tx.con [49, 44, 50, 57, 51, 44, 97, 98, 10]) (by decide) (TxA.cons (Tx.con [49, 44, 57, 55, 44, 97]) (by decide) (TxA.cons (Tx.con [49, 44, 57, 55, 44, 44, 97, 10]) (by decide) (TxA.cons (Tx.con [44, 44, 10]) (by decide) TxA.nil))))) (by decide))) (by decide)
  let s3 : Sl := some (true, .lst (f3.map D.str))
  obtain ⟨f4, g4, l4, w4⟩ := Ls.addF (F (fs := s3) rfl l3 w3) (Ls.of (Ls.disp (n := 300000) (TxA.cons (Tx.join (Ls.add (Ls.add (Ls.to (L5 s3) (N3 s3)) (Ls.mid (L5 s3) (N3 s3) (N31 s3)) (by decide)) (Ls.from (L5 s3) (N3 s3)) (by decide)) (by decide)) (by decide)
    (TxA.cons (Tx.join (Ls.add (Ls.add (Ls.add (Ls.to (L5 s3) (N3 s3)) (Ls.mid (L5 s3) (N31 s3) (N32 s3)) (by decide)) (Ls.mid (L5 s3) (N3 s3) (N31 s3)) (by decide)) (Ls.from (L5 s3) (N32 s3)) (by decide)) (by decide)) (by decide) TxA.nil)) (by decide))) (by decide)
  let s4 : Sl := some (true, .lst (f4.map D.str))
  have Nx : Nm (ρF s4) (op2 gAdd (eC (.int 20009)) (op2 gMod (op2 gIx (eVar 1) (eC (.int 3))) (eC (.int 3)))) 20011 := (Nm.con 20009).add (Nm.mod (m := 2) (Nm.ix (ds := ds) (m := 3) ⟨.cl, rfl⟩ ⟨.cl, rfl⟩ (by omega)) ⟨.cl, 3, rfl, by decide, by decide⟩)
  obtain ⟨t5, g5, w5⟩ := ((T4 s4).add (Tx.rec (N31 s4) (Tx.rep Nx (by decide)) (by decide) (by decide)) (by decide)).add (Tx.rec (N32 s4) (Tx.con [98]) (by decide) (by decide)) (by decide)
  let f5 := f4 ++ [t5]
  let s5 : Sl := some (true, .lst (f5.map D.str))
  have l5 : f5.length ≤ 8 + 9 + 5 + 2 + 1 := by
    show (f4 ++ [t5]).length ≤ _
    rw [List.length_append, List.length_singleton]
    omega
  have w5' : ∀ x ∈ f5, x.length ≤ 300000 := fun x hx => (List.mem_append.mp hx).elim (w4 x) fun z => by rw [List.mem_singleton.mp z]; exact Nat.le_trans w5 (by decide)
  obtain ⟨f6, g6, l6, w6⟩ := Ls.addF (F (fs := s5) rfl l5 w5') (Ls.of (Ls.disp (n := 300000) (TxA.cons (Tx.bent (ρ := ρF s5) (a := eVar 2) (b := eVar 1) (q := 2) rfl rfl (by omega : text.length ≤ 100000) (by omega)) (by decide)
    (TxA.cons (Tx.bent (ρ := ρF s5) (a := eVar 2) (b := eVar 1) (q := 5) rfl rfl (by omega : text.length ≤ 100000) (by omega)) (by decide) (TxA.cons (Tx.bent (ρ := ρF s5) (a := eVar 2) (b := eVar 1) (q := 8) rfl rfl (by omega : text.length ≤ 100000) (by omega)) (by decide) TxA.nil))) (by decide))) (by decide)
  refine ⟨f6, fn_ok (ρ0 := ρ0) (s := .rt (.fr, .lst (f6.map D.str))) rfl rfl ?_ rfl, by omega, w6⟩
  unfold B__law_texts
  have lt7 : ∀ fs, 7 < (ρF fs).length := fun fs => by show 7 < 8; decide
  refine sSeq_n (ρ1 := ρ1) (sSet_c e2) (sSeq_n (ρ1 := ρ2) (sSet_c e3) (sSeq_n (ρ1 := ρ3) (sSet_c e4) (sSeq_n (ρ1 := ρF none) (sSet_f e5 (by show 5 < 8; decide)) ?_)))
  refine sSeq_n (ρ1 := ρF s1) (sSet_f g1 (lt7 none)) (sSeq_n (ρ1 := ρF s2) (sSet_f g2 (lt7 s1)) (sSeq_n (ρ1 := ρF s3) (sSet_f g3 (lt7 s2)) (sSeq_n (ρ1 := ρF s4) (sSet_f g4 (lt7 s3)) (sSeq_n (ρ1 := ρF s5) ?_ (sRet_ok g6)))))
  rw [sApp_ok (ds := f4.map D.str) (e := (.cl, .str t5)) rfl g5 rfl (by rw [List.length_map]; omega)]
  show SRes.nx [L, Q, some (false, .str text), some (false, .int at'), some (false, .str rest), some (true, .lst (rr.map D.str)), none, some (true, .lst (f4.map D.str ++ [D.str t5]))] = SRes.nx [L, Q, some (false, .str text), some (false, .int at'), some (false, .str rest), some (true, .lst (rr.map D.str)), none, some (true, .lst ((f4 ++ [t5]).map D.str))]
  rw [List.map_append]
  rfl
end PL
set_option Elab.async false
set_option linter.all false
set_option maxRecDepth 100000
set_option maxHeartbeats 4000000
/-! Mk62j: the law answers True. -/
namespace PL
open PySem PySem.Spec L2

theorem toPs_strs : ∀ ps : List (List Nat), toPs (ps.map D.str) = some (ps.map fun p => PyData.str (S p))
  | [] => rfl
  | p :: r => by
    rw [List.map_cons]
    unfold toPs
    rw [toPs_strs r]
    rfl
theorem lay_strs : ∀ ps : List (List Nat), (∀ p ∈ ps, prn p = true) → PyData.canLayAll0 (ps.map fun p => PyData.str (S p)) = true
  | [], _ => rfl
  | p :: r, h => by
    rw [List.map_cons]
    unfold PyData.canLayAll0
    rw [lay_strs r fun q hq => h q (List.mem_cons_of_mem _ hq), Bool.and_true]
    show (S p).cps.all (· < 0x110000) = true
    have hp := h p List.mem_cons_self
    have : ∀ c ∈ p, c < 0x110000 := fun c hc => by
      have := prc_rng (List.all_eq_true.mp hp c hc)
      omega
    simpa [S] using this
theorem depth_strs : ∀ ps : List (List Nat), PyData.depthAll (ps.map fun p => PyData.str (S p)) ≤ 1
  | [] => by simp [PyData.depthAll]
  | p :: r => by
    rw [List.map_cons]
    unfold PyData.depthAll
    have := depth_strs r
    have h1 : PyData.depth (PyData.str (S p)) ≤ 1 := by simp [PyData.depth]
    omega
theorem ne_self {ps : List (List Nat)} (h : ∀ p ∈ ps, prn p = true) : gNe (.lst (ps.map D.str)) (.lst (ps.map D.str)) = .ok (.cl, .bl false) := by
  have t : toP (.lst (ps.map D.str)) = some (.list (ps.map fun p => PyData.str (S p))) := by
    unfold toP
    rw [toPs_strs]
    rfl
  have l := lay_strs ps h
  have l0 : PyData.canLay0 (.list (ps.map fun p => PyData.str (S p))) = true := by
    unfold PyData.canLay0
    exact l
  have sh : shp (.lst (ps.map D.str)) = true := by
    unfold shp
    rw [t]
    show (PyData.canLay0 _ && decide (PyData.depth _ ≤ 64)) = true
    rw [l0, Bool.true_and, decide_eq_true_eq]
    have := depth_strs ps
    unfold PyData.depth
    omega
  have pe : peq (.lst (ps.map D.str)) (.lst (ps.map D.str)) = true := by
    unfold peq
    rw [t]
    exact PySem.SeqAt.eqv_refl _ l0
  show gEqD true _ _ = _
  unfold gEqD
  rw [sh, pe]
  rfl
theorem lcA_ex {α : Type} {h : D → R (Option D)} {k : α → D} {P : List Nat → Prop} : ∀ {xs : List α}, (∀ a ∈ xs, ∃ y, h (k a) = .ok (some (.str y)) ∧ P y) → ∃ ys : List (List Nat), lcA h (xs.map k) = .ok (ys.map D.str) ∧ ys.length = xs.length ∧ ∀ y ∈ ys, P y
  | [], _ => ⟨[], rfl, rfl, fun _ hy => absurd hy List.not_mem_nil⟩
  | a :: xs, q => by
    obtain ⟨y, h1, h2⟩ := q a List.mem_cons_self
    obtain ⟨ys, h3, h4, h5⟩ := lcA_ex fun e he => q e (List.mem_cons_of_mem _ he)
    refine ⟨y :: ys, ?_, by rw [List.length_cons, List.length_cons, h4], fun z hz => (List.mem_cons.mp hz).elim (fun e => by rw [e]; exact h2) (h5 z)⟩
    rw [List.map_cons]
    unfold lcA
    rw [h1, h3]
    rfl
section
variable {ns : List Int} {more : List Nat} {ls : List (List Nat)}
/-- the slots of the law -/
def envL (ns : List Int) (more : List Nat) (a2 a3 a4 a5 a6 a7 a8 : Sl) : Ro := [some (false, .rol (ns.map D.int)), some (true, numD more), a2, a3, a4, a5, a6, a7, a8]
theorem md_ok {ρ : Ro} {fa fb : EF} {k k2 : Kd} {x y : Nat} (h1 : fa ρ = .ok (k, .int x)) (h2 : fb ρ = .ok (k2, .int y)) (h3 : 0 < y) : op2 gMod fa fb ρ = .ok (.cl, .int ((x % y : Nat) : Int)) :=
  op2_ok h1 h2 ((gMod_i (by omega)).trans (congrArg (fun z => R.ok (Kd.cl, D.int z)) (Int.natCast_emod _ _).symm))
theorem cI (n : Nat) (ρ : Ro) : eC (.int n) ρ = .ok (.cl, .int (n : Int)) := rfl
theorem e_lines (hm : more.length = 40) : ∃ ls : List (List Nat), lcF (iRng (op2 gAdd (eC (.int 1)) (op2 gMod (op2 gIx (eVar 1) (eC (.int 0))) (eC (.int 8))))) [3] (gNm 3) (tYesF) (eCall (F__law_drawn) 2 (aCons (op2 gAdd (op2 gMulI (op2 gIx (eVar 1) (eVar 3)) (eC (.int 7919))) (eVar 3)) (aCons (op2 gIx (disp (fun ds => (.fr, .lst ds)) (aCons (op2 gMod (op2 gIx (eVar 1) (op2 gAdd (eC (.int 8)) (eVar 3))) (eC (.int 12))) (aCons (op2 gMod (op2 gIx (eVar 1) (op2 gAdd (eC (.int 8)) (eVar 3))) (eC (.int 90))) (aCons (eC (.int 0)) (aNil))))) (op2 gMod (op2 gIx (eVar 1) (eVar 3)) (eC (.int 3)))) (aNil)))) (envL ns more none none none none none none none) = .ok (.fr, .lst (ls.map D.str)) ∧
    0 < ls.length ∧ ls.length ≤ 8 ∧ ∀ p ∈ ls, prn p = true ∧ p.length < 90 := by
  let ρ := envL ns more none none none none none none none
  have hr : iRng (op2 gAdd (eC (.int 1)) (op2 gMod (op2 gIx (eVar 1) (eC (.int 0))) (eC (.int 8)))) ρ = .ok (false, (List.range' 0 (1 + more[0] % 8)).map fun k : Nat => D.int k) :=
    iRng_ok (k := .cl) (n := 1 + more[0] % 8) (addN (cI 1 ρ) (md_ok (ixN_ok (ds := more) (k := .pk) (i := 0) rfl (cI 0 ρ) (by omega)) (cI 8 ρ) (by decide))) (by omega)
  obtain ⟨ls, h1, h2, h3⟩ := lcA_ex (h := turnD (gNm 3) tYesF (eCall (F__law_drawn) 2 (aCons (op2 gAdd (op2 gMulI (op2 gIx (eVar 1) (eVar 3)) (eC (.int 7919))) (eVar 3)) (aCons (op2 gIx (disp (fun ds => (.fr, .lst ds)) (aCons (op2 gMod (op2 gIx (eVar 1) (op2 gAdd (eC (.int 8)) (eVar 3))) (eC (.int 12))) (aCons (op2 gMod (op2 gIx (eVar 1) (op2 gAdd (eC (.int 8)) (eVar 3))) (eC (.int 90))) (aCons (eC (.int 0)) (aNil))))) (op2 gMod (op2 gIx (eVar 1) (eVar 3)) (eC (.int 3)))) (aNil)))) (wipeR ρ [3])) (k := fun k : Nat => D.int k) (P := fun p => prn p = true ∧ p.length < 90) (xs := List.range' 0 (1 + more[0] % 8)) fun k hk => by
    have hk := (List.mem_range'_1.mp hk).2
    have hk : k < 8 := by omega
    let ρ1 := envL ns more none (some (false, .int k)) none none none none none
    let c : Nat := if more[k] % 3 = 0 then more[8 + k] % 12 else if more[k] % 3 = 1 then more[8 + k] % 90 else 0
    have hc : c < 90 := by
      show (if more[k] % 3 = 0 then more[8 + k] % 12 else if more[k] % 3 = 1 then more[8 + k] % 90 else 0) < 90
      split
      · omega
      · split <;> omega
    obtain ⟨y, d1, d2, d3⟩ := e_drawn ((more[k] : Int) * 7919 + k) c (by omega)
    refine ⟨y, ?_, d3, by omega⟩
    refine turn_ok (ρ1 := ρ1) rfl rfl (e := (.cl, .str y)) ?_ rfl
    have g1 : op2 gIx (eVar 1) (eVar 3) ρ1 = .ok (.cl, .int (more[k] : Nat)) := ixN_ok (ds := more) (k := .pk) (k2 := .cl) (i := k) rfl rfl (by omega)
    have g8 : op2 gIx (eVar 1) (op2 gAdd (eC (.int 8)) (eVar 3)) ρ1 = .ok (.cl, .int (more[8 + k] : Nat)) := ixN_ok (ds := more) (k := .pk) (i := 8 + k) rfl (addN (cI 8 ρ1) (k2 := .cl) (y := k) rfl) (by omega)
    have a1 : op2 gAdd (op2 gMulI (op2 gIx (eVar 1) (eVar 3)) (eC (.int 7919))) (eVar 3) ρ1 = .ok (.cl, .int ((more[k] : Int) * 7919 + k)) := op2_ok (op2_ok (g := gMulI) g1 (cI 7919 ρ1) (gMul_i (by decide))) (k2 := .cl) (y := .int k) rfl gAdd_i
    have a2 : disp (fun ds => (.fr, .lst ds)) (aCons (op2 gMod (op2 gIx (eVar 1) (op2 gAdd (eC (.int 8)) (eVar 3))) (eC (.int 12))) (aCons (op2 gMod (op2 gIx (eVar 1) (op2 gAdd (eC (.int 8)) (eVar 3))) (eC (.int 90))) (aCons (eC (.int 0)) (aNil)))) ρ1 = .ok (.fr, .lst [.int ((more[8 + k] % 12 : Nat) : Int), .int ((more[8 + k] % 90 : Nat) : Int), .int 0]) :=
      disp_ok (es := [(.cl, .int ((more[8 + k] % 12 : Nat) : Int)), (.cl, .int ((more[8 + k] % 90 : Nat) : Int)), (.cl, .int 0)]) (aCons_ok (md_ok g8 (cI 12 ρ1) (by decide)) (aCons_ok (md_ok g8 (cI 90 ρ1) (by decide)) (aCons_ok rfl rfl))) rfl (by show 3 ≤ 16777216; decide) rfl
    have a3 : op2 gIx (disp (fun ds => (.fr, .lst ds)) (aCons (op2 gMod (op2 gIx (eVar 1) (op2 gAdd (eC (.int 8)) (eVar 3))) (eC (.int 12))) (aCons (op2 gMod (op2 gIx (eVar 1) (op2 gAdd (eC (.int 8)) (eVar 3))) (eC (.int 90))) (aCons (eC (.int 0)) (aNil))))) (op2 gMod (op2 gIx (eVar 1) (eVar 3)) (eC (.int 3))) ρ1 = .ok (.cl, .int (c : Nat)) := by
      refine op2_ok a2 (md_ok g1 (cI 3 ρ1) (by decide)) (gIx_l ?_)
      show _ = some (D.int ((if more[k] % 3 = 0 then more[8 + k] % 12 else if more[k] % 3 = 1 then more[8 + k] % 90 else 0 : Nat) : Int))
      have h3 : more[k] % 3 < 3 := Nat.mod_lt _ (by decide)
      generalize more[k] % 3 = q at h3
      match q, h3 with
      | 0, _ => rfl
      | 1, _ => rfl
      | 2, _ => rfl
    exact eCall_ok (aCons_ok a1 (aCons_ok a3 rfl)) rfl rfl d1 rfl
  rw [List.length_range'] at h2
  exact ⟨ls, lcF_ok hr (by rw [List.length_map, List.length_range']; omega) h1, by omega, by omega, h3⟩
/-- a first loop: the checks -/
def cbody : SF := sIf (tNotF (tVal (eCall (F__law_same 3) 2 (aCons (eCall (F_check_of) 1 (aCons (eVar 5) (aNil))) (aCons (eCall (F__law_check_of) 1 (aCons (eVar 5) (aNil))) (aNil)))))) (sRet (eC (.bl false))) (sSkip)
theorem c_loop (a2 a3 a4 a6 a7 a8 : Sl) : ∀ (xs : List (List Nat)) (a5 : Sl), (∀ x ∈ xs, x.length ≤ 1000) → ∃ b5, forL (gNm 5) cbody (xs.map D.str) (envL ns more a2 a3 a4 a5 a6 a7 a8) = .nx (envL ns more a2 a3 a4 b5 a6 a7 a8)
  | [], a5, _ => ⟨a5, rfl⟩
  | x :: xs, a5, h => by
    obtain ⟨b5, ih⟩ := c_loop a2 a3 a4 a6 a7 a8 xs (some (false, .str x)) fun y hy => h y (List.mem_cons_of_mem _ hy)
    have hx := h x List.mem_cons_self
    let ρ := envL ns more a2 a3 a4 (some (false, .str x)) a6 a7 a8
    have c1 : eCall F_check_of 1 (aCons (eVar 5) aNil) ρ = .ok (.cl, .int (chk x : Nat)) := eCall_ok (aCons_ok rfl rfl) rfl rfl (e_check x (by omega)) rfl
    have c2 : eCall F__law_check_of 1 (aCons (eVar 5) aNil) ρ = .ok (.cl, .int (chk x : Nat)) := eCall_ok (aCons_ok rfl rfl) rfl rfl (e_lchk x (by omega)) rfl
    exact ⟨b5, forL_n (ρ1 := ρ) (ρ2 := ρ) rfl (sIf_f (tNot_ok (b := true) (tVal_b (eCall_ok (aCons_ok c1 (aCons_ok c2 rfl)) rfl rfl (same_int _) rfl))) rfl) ih⟩
/-- a second loop: the texts -/
def ubody : SF := (sSeq (sSet 8 (eCall (F_payloads_in) 1 (aCons (eVar 6) (aNil)))) <|
    sSeq (sIf (tNotF (tVal (eCall (F__law_same 3) 2 (aCons (eVar 8) (aCons (eCall (F__law_records) 1 (aCons (eVar 6) (aNil))) (aNil)))))) (sRet (eC (.bl false))) (sSkip)) <|
    sApp 8 (eC (.str [99, 104, 97, 110, 103, 101, 100])))
theorem pin_len : ∀ (rs : List (List Nat)) (n : Nat), (pin n rs).length ≤ rs.length
  | [], _ => Nat.le_refl _
  | r :: rs, n => by
    unfold pin
    split
    · rw [List.length_cons, List.length_cons]; exact Nat.succ_le_succ (pin_len rs _)
    · exact Nat.zero_le _
theorem u_turn {x : List Nat} (hx : x.length ≤ 300000) (a2 a3 a4 a5 a7 a8 : Sl) : ∃ b8, ubody (envL ns more a2 a3 a4 a5 (some (false, .str x)) a7 a8) = .nx (envL ns more a2 a3 a4 a5 (some (false, .str x)) a7 b8) := by
  let ps := pin 1 (rows x)
  have hl : ps.length ≤ 300000 := Nat.le_trans (pin_len _ _) (rows_sm hx).1
  let ρ1 := envL ns more a2 a3 a4 a5 (some (false, .str x)) a7 a8
  let ρ2 := envL ns more a2 a3 a4 a5 (some (false, .str x)) a7 (some (true, .lst (ps.map D.str)))
  have c1 : eCall F_payloads_in 1 (aCons (eVar 6) aNil) ρ1 = .ok (.fr, .lst (ps.map D.str)) := eCall_ok (aCons_ok rfl rfl) rfl rfl (e_payloads x (by omega)) (noLs_strs _)
  have c2 : eCall F__law_records 1 (aCons (eVar 6) aNil) ρ2 = .ok (.fr, .lst (ps.map D.str)) := eCall_ok (aCons_ok rfl rfl) rfl rfl (e_lrecords x (by omega)) (noLs_strs _)
  have c3 : eVar 8 ρ2 = .ok (.pk, .lst (ps.map D.str)) := rfl
  refine ⟨some (true, .lst (ps.map D.str ++ [.str [99, 104, 97, 110, 103, 101, 100]])), ?_⟩
  refine sSeq_n (ρ1 := ρ2) (sSet_f c1 (by show 8 < 9; decide)) (sSeq_n (ρ1 := ρ2) (sIf_f (tNot_ok (b := true) (tVal_b (eCall_ok (aCons_ok c3 (aCons_ok c2 rfl)) rfl rfl (same_strs 1 ps (by omega)) rfl))) rfl) ?_)
  exact sApp_ok (ds := ps.map D.str) (e := (.cl, .str [99, 104, 97, 110, 103, 101, 100])) rfl rfl rfl (by rw [List.length_map]; omega)
theorem u_two {x : List Nat} (hx : x.length ≤ 300000) (a2 a3 a4 a5 a7 a8 : Sl) : ∃ b7 b8, sFor (iRng (eC (.int 2))) (gNm 7) ubody (envL ns more a2 a3 a4 a5 (some (false, .str x)) a7 a8) = .nx (envL ns more a2 a3 a4 a5 (some (false, .str x)) b7 b8) := by
  obtain ⟨b8, h1⟩ := u_turn (ns := ns) (more := more) hx a2 a3 a4 a5 (some (false, .int (0 : Nat))) a8
  obtain ⟨c8, h2⟩ := u_turn (ns := ns) (more := more) hx a2 a3 a4 a5 (some (false, .int (1 : Nat))) b8
  have r : iRng (eC (.int 2)) (envL ns more a2 a3 a4 a5 (some (false, .str x)) a7 a8) = .ok (false, (List.range' 0 2).map fun k : Nat => D.int k) := iRng_ok (k := .cl) (n := 2) rfl (by decide)
  refine ⟨some (false, .int (1 : Nat)), c8, sFor_ok r ?_⟩
  exact forL_n (ρ1 := envL ns more a2 a3 a4 a5 (some (false, .str x)) (some (false, .int (0 : Nat))) a8) rfl h1 (forL_n (ρ1 := envL ns more a2 a3 a4 a5 (some (false, .str x)) (some (false, .int (1 : Nat))) b8) rfl h2 rfl)
theorem t_loop (a2 a3 a4 a5 : Sl) : ∀ (xs : List (List Nat)) (a6 a7 a8 : Sl), (∀ x ∈ xs, x.length ≤ 300000) → ∃ b6 b7 b8, forL (gNm 6) (sFor (iRng (eC (.int 2))) (gNm 7) ubody) (xs.map D.str) (envL ns more a2 a3 a4 a5 a6 a7 a8) = .nx (envL ns more a2 a3 a4 a5 b6 b7 b8)
  | [], a6, a7, a8, _ => ⟨a6, a7, a8, rfl⟩
  | x :: xs, a6, a7, a8, h => by
    obtain ⟨b7, b8, h1⟩ := u_two (ns := ns) (more := more) (h x List.mem_cons_self) a2 a3 a4 a5 a7 a8
    obtain ⟨c6, c7, c8, ih⟩ := t_loop a2 a3 a4 a5 xs (some (false, .str x)) b7 b8 fun y hy => h y (List.mem_cons_of_mem _ hy)
    exact ⟨c6, c7, c8, forL_n (ρ1 := envL ns more a2 a3 a4 a5 (some (false, .str x)) a7 a8) rfl h1 ih⟩
end
end PL
set_option Elab.async false
set_option linter.all false
set_option maxRecDepth 100000
set_option maxHeartbeats 4000000
/-! Mk62k: the law answers True. -/
namespace PL
open PySem PySem.Spec L2
theorem B_law_eq : B_law = (sSeq (sSet 1 (eCall (F__law_numbers) 3 (aCons (eCall (F__law_cell) 2 (aCons (eVar 0) (aCons (eC (.int 0)) (aNil)))) (aCons (eC (.int 40)) (aCons (eC (.int 5040)) (aNil)))))) <|
    sSeq (sSet 2 (lcF (iRng (op2 gAdd (eC (.int 1)) (op2 gMod (op2 gIx (eVar 1) (eC (.int 0))) (eC (.int 8))))) [3] (gNm 3) (tYesF) (eCall (F__law_drawn) 2 (aCons (op2 gAdd (op2 gMulI (op2 gIx (eVar 1) (eVar 3)) (eC (.int 7919))) (eVar 3)) (aCons (op2 gIx (disp (fun ds => (.fr, .lst ds)) (aCons (op2 gMod (op2 gIx (eVar 1) (op2 gAdd (eC (.int 8)) (eVar 3))) (eC (.int 12))) (aCons (op2 gMod (op2 gIx (eVar 1) (op2 gAdd (eC (.int 8)) (eVar 3))) (eC (.int 90))) (aCons (eC (.int 0)) (aNil))))) (op2 gMod (op2 gIx (eVar 1) (eVar 3)) (eC (.int 3)))) (aNil)))))) <|
    sSeq (sIf (t2 gEq (op2 gMod (op2 gIx (eVar 1) (eC (.int 20))) (eC (.int 2))) (eC (.int 0))) (sSub 2 (eC (.int 0)) (op2 gAdd (op2 gAdd (eC (.str [44, 32, 97, 44, 98])) (op2 gIx (eVar 2) (eC (.int 0)))) (eC (.str [32, 44])))) (sSkip)) <|
    sSeq (sSet 4 (op1 gList (eVar 2))) <|
    sSeq (sFor (iVal (op2 gAdd (eVar 2) (disp (fun ds => (.fr, .lst ds)) (aCons (eC (.str [97, 98])) (aCons (eC (.str [97])) (aCons (eC (.str [])) (aNil))))))) (gNm 5) cbody) <|
    sSeq (sIf (tOrF (tNotF (tVal (eCall (F__law_same 3) 2 (aCons (disp (fun ds => (.fr, .lst ds)) (aCons (eCall (F_journal_of) 1 (aCons (op1 gList (eVar 2)) (aNil))) (aCons (eCall (F_journal_of) 1 (aCons (disp (fun ds => (.fr, .lst ds)) (aNil)) (aNil))) (aNil)))) (aCons (disp (fun ds => (.fr, .lst ds)) (aCons (eCall (F__law_journal) 1 (aCons (eVar 2) (aNil))) (aCons (eC (.str [])) (aNil)))) (aNil)))))) (tOrF (t2 gNe (eVar 2) (eVar 4)) (tNotF (tVal (eCall (F__law_spoilt_rows) 2 (aCons (eVar 2) (aCons (eVar 1) (aNil)))))))) (sRet (eC (.bl false))) (sSkip)) <|
    sSeq (sFor (iVal (eCall (F__law_texts) 2 (aCons (eVar 2) (aCons (eSl (eVar 1) (oSome (eC (.int 21))) (oNo)) (aNil))))) (gNm 6) (sFor (iRng (eC (.int 2))) (gNm 7) ubody)) <|
    sRet (op2 gEq (eCall (F_check_of) 1 (aCons (eC (.str [97, 98])) (aNil))) (eC (.int 293)))) := rfl
section
variable {ns : List Int} {more : List Nat}
theorem e_first {ls : List (List Nat)} (hm : more.length = 40) (h0 : 0 < ls.length) (h8 : ls.length ≤ 8) (hl : ∀ p ∈ ls, prn p = true ∧ p.length < 90) :
    ∃ qs, Lines qs ∧ sIf (t2 gEq (op2 gMod (op2 gIx (eVar 1) (eC (.int 20))) (eC (.int 2))) (eC (.int 0))) (sSub 2 (eC (.int 0)) (op2 gAdd (op2 gAdd (eC (.str [44, 32, 97, 44, 98])) (op2 gIx (eVar 2) (eC (.int 0)))) (eC (.str [32, 44])))) (sSkip) (envL ns more (some (true, .lst (ls.map D.str))) none none none none none none)
      = .nx (envL ns more (some (true, .lst (qs.map D.str))) none none none none none none) := by
  let ρ := envL ns more (some (true, .lst (ls.map D.str))) none none none none none none
  have e : op2 gMod (op2 gIx (eVar 1) (eC (.int 20))) (eC (.int 2)) ρ = .ok (.cl, .int ((more[20] % 2 : Nat) : Int)) := md_ok (ixN_ok (ds := more) (k := .pk) (i := 20) rfl (cI 20 ρ) (by omega)) (cI 2 ρ) (by decide)
  have t := t2_ok (g := gEq) e (cI 0 ρ) gEq_i
  cases q : (((more[20] % 2 : Nat) : Int) == ((0 : Nat) : Int)) with
  | false =>
    rw [q] at t
    exact ⟨ls, ⟨h8, fun p hp => ⟨(hl p hp).1, by have := (hl p hp).2; omega⟩⟩, sIf_f t rfl⟩
  | true =>
    rw [q] at t
    have hx := hl _ (List.getElem_mem h0)
    have g0 : op2 gIx (eVar 2) (eC (.int 0)) ρ = .ok (.cl, .str ls[0]) := op2_ok (k1 := .pk) (x := .lst (ls.map D.str)) rfl (cI 0 ρ) (gIx_l (by rw [List.getElem?_map, List.getElem?_eq_getElem h0]; rfl))
    have a1 := addS (fa := eC (.str [44, 32, 97, 44, 98])) (k := .cl) (x := [44, 32, 97, 44, 98]) rfl g0 (by simp only [List.length_cons, List.length_nil]; omega)
    have a2 := addS a1 (fl := eC (.str [32, 44])) (k2 := .cl) (y := [32, 44]) rfl (by simp only [List.length_append, List.length_cons, List.length_nil]; omega)
    generalize hb : [44, 32, 97, 44, 98] ++ ls[0] ++ [32, 44] = b at a2
    refine ⟨ls.set 0 b, ⟨by rw [List.length_set]; exact h8, fun p hp => ?_⟩, sIf_t t ?_⟩
    · rcases List.mem_or_eq_of_mem_set hp with z | z
      · exact ⟨(hl p z).1, by have := (hl p z).2; omega⟩
      · subst z
        rw [← hb]
        refine ⟨?_, by simp only [List.length_append, List.length_cons, List.length_nil]; omega⟩
        unfold prn
        rw [List.all_append, List.all_append, show ls[0].all prc = true from hx.1]
        decide
    · unfold sSub
      show sOf (op2 gAdd _ _ ρ) ρ _ = _
      rw [a2]
      show (match ixN (ls.map D.str).length ((0 : Nat) : Int) with | some n => if okE (Kd.cl, D.str b) = true then SRes.nx (ρ.set 2 (some (true, .lst ((ls.map D.str).set n (.str b))))) else .bad | none => .bad) = _
      rw [ixN_nat (by rw [List.length_map]; exact h0)]
      show SRes.nx (envL ns more (some (true, .lst ((ls.map D.str).set 0 (.str b)))) none none none none none none) = _
      rw [← List.map_set]
theorem e_law (ns : List Int) : F_law [.rol (ns.map D.int)] = .ok (.cl, .bl true) := by
  obtain ⟨z, hz⟩ := e_cell ns
  obtain ⟨more, n1, n2, n3⟩ := e_numbers z 40 5040 (by decide) (by decide)
  obtain ⟨ls, m1, m2, m3, m4⟩ := e_lines (ns := ns) n2
  obtain ⟨qs, hq, f1⟩ := e_first (ns := ns) n2 m2 m3 m4
  have q8 := hq.1
  have hp : ∀ p ∈ qs, prn p = true := fun p h => (hq.2 p h).1
  let ρ0 : Ro := [some (false, .rol (ns.map D.int)), none, none, none, none, none, none, none, none]
  let ρ1 := envL ns more none none none none none none none
  let Q : Sl := some (true, .lst (qs.map D.str))
  let ρ3 := envL ns more Q none none none none none none
  let ρ4 := envL ns more Q none Q none none none none
  have c0 : eCall F__law_cell 2 (aCons (eVar 0) (aCons (eC (.int 0)) aNil)) ρ0 = .ok (.cl, .int z) := eCall_ok (aCons_ok rfl (aCons_ok rfl rfl)) rfl rfl hz rfl
  have c1 : eCall F__law_numbers 3 (aCons (eCall (F__law_cell) 2 (aCons (eVar 0) (aCons (eC (.int 0)) (aNil)))) (aCons (eC (.int 40)) (aCons (eC (.int 5040)) (aNil)))) ρ0 = .ok (.fr, numD more) := eCall_ok (aCons_ok c0 (aCons_ok rfl (aCons_ok rfl rfl))) rfl rfl n1 (noLs_ints _)
  have w : ∀ x ∈ qs ++ [[97, 98], [97], []], x.length ≤ 1000 := fun x hx => by
    rcases List.mem_append.mp hx with h | h
    · have := (hq.2 x h).2; omega
    · have : ∀ y ∈ ([[97, 98], [97], []] : List (List Nat)), y.length ≤ 1000 := by decide
      exact this x h
  obtain ⟨b5, l1⟩ := c_loop (ns := ns) (more := more) Q none Q none none none (qs ++ [[97, 98], [97], []]) none w
  let ρ5 := envL ns more Q none Q b5 none none none
  have i1 : iVal (op2 gAdd (eVar 2) (disp (fun ds => (.fr, .lst ds)) (aCons (eC (.str [97, 98])) (aCons (eC (.str [97])) (aCons (eC (.str [])) (aNil)))))) ρ4 = .ok (false, (qs ++ [[97, 98], [97], []]).map D.str) := by
    have : op2 gAdd (eVar 2) (disp (fun ds => (.fr, .lst ds)) (aCons (eC (.str [97, 98])) (aCons (eC (.str [97])) (aCons (eC (.str [])) (aNil))))) ρ4 = .ok (.fr, .lst ((qs ++ [[97, 98], [97], []]).map D.str)) := by
      refine op2_ok (k1 := .pk) (x := .lst (qs.map D.str)) (k2 := .fr) (y := .lst [.str [97, 98], .str [97], .str []]) rfl (disp_ok (aCons_ok rfl (aCons_ok rfl (aCons_ok rfl rfl))) rfl (by decide) rfl) ?_
      rw [gAdd_l (by rw [List.length_map]; simp only [List.length_cons, List.length_nil]; omega), List.map_append]
      rfl
    unfold iVal
    rw [this]
    rfl
  have v2 : eVar 2 ρ5 = .ok (.pk, .lst (qs.map D.str)) := rfl
  have v4 : eVar 4 ρ5 = .ok (.pk, .lst (qs.map D.str)) := rfl
  have j1 : eCall F_journal_of 1 (aCons (op1 gList (eVar 2)) aNil) ρ5 = .ok (.cl, .str (jour qs)) := eCall_ok (aCons_ok (op1_ok (r := .ok (.fr, .lst (qs.map D.str))) v2 rfl) rfl) rfl rfl (e_journal qs hq.sm) rfl
  have j2 : eCall F_journal_of 1 (aCons (disp (fun ds => (.fr, .lst ds)) aNil) aNil) ρ5 = .ok (.cl, .str []) := eCall_ok (aCons_ok (disp_ok (es := []) (ds := []) rfl rfl (by decide) rfl) rfl) rfl rfl (e_journal [] ⟨by decide, fun p h => absurd h List.not_mem_nil⟩) rfl
  have j3 : eCall F__law_journal 1 (aCons (eVar 2) aNil) ρ5 = .ok (.cl, .str (jour qs)) := eCall_ok (aCons_ok v2 rfl) rfl rfl (e_ljournal qs hq.sm) rfl
  have d1 : disp (fun ds => (.fr, .lst ds)) (aCons (eCall (F_journal_of) 1 (aCons (op1 gList (eVar 2)) (aNil))) (aCons (eCall (F_journal_of) 1 (aCons (disp (fun ds => (.fr, .lst ds)) (aNil)) (aNil))) (aNil))) ρ5 = .ok (.fr, .lst ([jour qs, []].map D.str)) := disp_ok (aCons_ok j1 (aCons_ok j2 rfl)) rfl (by show 2 ≤ 16777216; decide) rfl
  have d2 : disp (fun ds => (.fr, .lst ds)) (aCons (eCall (F__law_journal) 1 (aCons (eVar 2) (aNil))) (aCons (eC (.str [])) (aNil))) ρ5 = .ok (.fr, .lst ([jour qs, []].map D.str)) := disp_ok (aCons_ok j3 (aCons_ok rfl rfl)) rfl (by show 2 ≤ 16777216; decide) rfl
  have t1 : tNotF (tVal (eCall (F__law_same 3) 2 (aCons (disp (fun ds => (.fr, .lst ds)) (aCons (eCall (F_journal_of) 1 (aCons (op1 gList (eVar 2)) (aNil))) (aCons (eCall (F_journal_of) 1 (aCons (disp (fun ds => (.fr, .lst ds)) (aNil)) (aNil))) (aNil)))) (aCons (disp (fun ds => (.fr, .lst ds)) (aCons (eCall (F__law_journal) 1 (aCons (eVar 2) (aNil))) (aCons (eC (.str [])) (aNil)))) (aNil))))) ρ5 = .ok false := by
    have hs : F__law_same 3 [.lst ([jour qs, []].map D.str), .lst ([jour qs, []].map D.str)] = .ok (.cl, .bl true) := same_strs 1 [jour qs, []] (by show 2 < 2 ^ 60; omega)
    have ha := aCons_ok d1 (aCons_ok d2 (show aNil ρ5 = .ok [] from rfl))
    generalize [jour qs, []].map D.str = L at hs ha
    exact tNot_ok (b := true) (tVal_b (eCall_ok ha rfl rfl hs rfl))
  have t2 := t2_ok (g := gNe) v2 v4 (ne_self hp)
  have v1 : eVar 1 ρ5 = .ok (.pk, numD more) := rfl
  have t3 : tNotF (tVal (eCall (F__law_spoilt_rows) 2 (aCons (eVar 2) (aCons (eVar 1) (aNil))))) ρ5 = .ok false := by
    have hs := e_spoilt hq (by omega : 16 ≤ more.length)
    have ha := aCons_ok v2 (aCons_ok v1 (show aNil ρ5 = .ok [] from rfl))
    exact tNot_ok (b := true) (tVal_b (eCall_ok ha rfl rfl hs rfl))
  have hdrop : 16 ≤ (more.drop 21).length := by rw [List.length_drop]; omega
  obtain ⟨ts, x1, x2, x3⟩ := e_texts hq hdrop
  have s21 : eSl (eVar 1) (oSome (eC (.int 21))) oNo ρ5 = .ok (.fr, numD (more.drop 21)) := by
    have q := slFromL (ρ := ρ5) (fa := eVar 1) (fl := eC (.int 21)) (k := .pk) (k2 := .cl) (x := (more.map fun n : Nat => (n : Int)).map D.int) (n := 21) rfl rfl
    refine Eq.trans q ?_
    unfold numD
    rw [List.map_drop, List.map_drop]
  have i2 : iVal (eCall (F__law_texts) 2 (aCons (eVar 2) (aCons (eSl (eVar 1) (oSome (eC (.int 21))) (oNo)) (aNil)))) ρ5 = .ok (false, ts.map D.str) := by
    have : eCall (F__law_texts) 2 (aCons (eVar 2) (aCons (eSl (eVar 1) (oSome (eC (.int 21))) (oNo)) (aNil))) ρ5 = .ok (.fr, .lst (ts.map D.str)) := eCall_ok (aCons_ok v2 (aCons_ok s21 rfl)) rfl rfl x1 (noLs_strs _)
    unfold iVal
    rw [this]
    rfl
  obtain ⟨b6, b7, b8, l2⟩ := t_loop (ns := ns) (more := more) Q none Q b5 ts none none none x3
  let ρ6 := envL ns more Q none Q b5 b6 b7 b8
  have r1 : eCall F_check_of 1 (aCons (eC (.str [97, 98])) aNil) ρ6 = .ok (.cl, .int (chk [97, 98] : Nat)) := eCall_ok (aCons_ok rfl rfl) rfl rfl (e_check [97, 98] (by decide)) rfl
  have r2 : op2 gEq (eCall F_check_of 1 (aCons (eC (.str [97, 98])) aNil)) (eC (.int 293)) ρ6 = .ok (.cl, .bl true) := op2_ok r1 (cI 293 ρ6) (by rw [gEq_i]; rfl)
  refine fn_ok (ρ0 := ρ0) (s := .rt (.cl, .bl true)) rfl rfl ?_ rfl
  rw [B_law_eq]
  refine sSeq_n (ρ1 := ρ1) (sSet_f c1 (by show 1 < 9; decide)) ?_
  refine sSeq_n (ρ1 := envL ns more (some (true, .lst (ls.map D.str))) none none none none none none) (sSet_f m1 (by show 2 < 9; decide)) ?_
  refine sSeq_n (ρ1 := ρ3) f1 ?_
  refine sSeq_n (ρ1 := ρ4) (sSet_f (op1_ok (k1 := .pk) (x := .lst (qs.map D.str)) rfl rfl) (by show 4 < 9; decide)) ?_
  refine sSeq_n (ρ1 := ρ5) (sFor_ok i1 l1) ?_
  refine sSeq_n (ρ1 := ρ5) (sIf_f (tOr_f t1 (tOr_f t2 t3)) rfl) ?_
  exact sSeq_n (ρ1 := ρ6) (sFor_ok i2 l2) (sRet_ok r2)
end
end PL
set_option Elab.async false
set_option linter.all false
set_option maxRecDepth 100000
set_option maxHeartbeats 4000000
namespace PL
open PySem PySem.Spec L2
def spLaw (K : PySem.W.Frag) : Sp := fun vs H Q _ => ∃ (a : Addr) (ns : List Int), vs = [.ref a] ∧ SqL K H a (ns.map V.int) ∧ ∀ H', Q (.bl true) H'
theorem law_sp {K : PySem.W.Frag} {mg : Str → Option Value} : ∀ vs H Q E, spLaw K vs H Q E → spD K mg 1 F_law vs H Q E := fun vs H Q E ⟨a, ns, e, hS, q⟩ => by
  subst e
  refine ⟨fun _ => False, [.rol (ns.map D.int)], fun _ z => z.elim, ⟨_, [], rfl, ⟨a, ns.map V.int, rfl, ?_, RpL.of_ints ns⟩, rfl⟩, rfl, ?_⟩
  · exact Same.seq (fun b o e => hd_some.mpr ⟨fun z => z, e⟩) hS
  · rw [e_law]
    intro H' v _ r
    cases (show v = _ from r)
    exact q H'

theorem all_mk {l : PySem.W.OpenLaw} {w : World} {K : PySem.W.Frag} {h : Heap} {mg : Str → Option Value} {fa : Addr} (X : K.In h) (G : h.Ns mainGlobals mg) (hfa : mg "law" = some (.ref fa))
    {f0 : Addr} {od0 an0 : Option Addr} {sl0 : Array (Option Value)} {oc0 kV0 dc0 pm0 cd0 ct0 : Value}
    {f1 : Addr} {od1 an1 : Option Addr} {sl1 : Array (Option Value)} {oc1 kV1 dc1 pm1 cd1 ct1 : Value}
    {f2 : Addr} {od2 an2 : Option Addr} {sl2 : Array (Option Value)} {oc2 kV2 dc2 pm2 cd2 ct2 : Value}
    {f3 : Addr} {od3 an3 : Option Addr} {sl3 : Array (Option Value)} {oc3 kV3 dc3 pm3 cd3 ct3 : Value}
    {f4 : Addr} {od4 an4 : Option Addr} {sl4 : Array (Option Value)} {oc4 kV4 dc4 pm4 cd4 ct4 : Value}
    {f5 : Addr} {od5 an5 : Option Addr} {sl5 : Array (Option Value)} {oc5 kV5 dc5 pm5 cd5 ct5 : Value}
    {f6 : Addr} {od6 an6 : Option Addr} {sl6 : Array (Option Value)} {oc6 kV6 dc6 pm6 cd6 ct6 : Value}
    {f7 : Addr} {od7 an7 : Option Addr} {sl7 : Array (Option Value)} {oc7 kV7 dc7 pm7 cd7 ct7 : Value}
    {f8 : Addr} {od8 an8 : Option Addr} {sl8 : Array (Option Value)} {oc8 kV8 dc8 pm8 cd8 ct8 : Value}
    {f9 : Addr} {od9 an9 : Option Addr} {sl9 : Array (Option Value)} {oc9 kV9 dc9 pm9 cd9 ct9 : Value}
    {f10 : Addr} {od10 an10 : Option Addr} {sl10 : Array (Option Value)} {oc10 kV10 dc10 pm10 cd10 ct10 : Value}
    {f11 : Addr} {od11 an11 : Option Addr} {sl11 : Array (Option Value)} {oc11 kV11 dc11 pm11 cd11 ct11 : Value}
    {f12 : Addr} {od12 an12 : Option Addr} {sl12 : Array (Option Value)} {oc12 kV12 dc12 pm12 cd12 ct12 : Value}
    {f13 : Addr} {od13 an13 : Option Addr} {sl13 : Array (Option Value)} {oc13 kV13 dc13 pm13 cd13 ct13 : Value}
    {f14 : Addr} {od14 an14 : Option Addr} {sl14 : Array (Option Value)} {oc14 kV14 dc14 pm14 cd14 ct14 : Value}
    {f15 : Addr} {od15 an15 : Option Addr} {sl15 : Array (Option Value)} {oc15 kV15 dc15 pm15 cd15 ct15 : Value}
    {f16 : Addr} {od16 an16 : Option Addr} {sl16 : Array (Option Value)} {oc16 kV16 dc16 pm16 cd16 ct16 : Value}
    {f17 : Addr} {od17 an17 : Option Addr} {sl17 : Array (Option Value)} {oc17 kV17 dc17 pm17 cd17 ct17 : Value}
    (a0 : PySem.W.nsIn K mainGlobals "check_of" = some (some (.ref f0))) (l0 : K.lookup f0 = some ⟨oc0, od0, .func (PySem.W.fnOf "check_of" "check_of" (defArgs st_check_of) (defBody st_check_of) (defScope st_check_of) .none kV0 dc0 pm0 an0 cd0 ct0), sl0⟩) (c0 : PySem.W.codeIn K cd0 "check_of" = true) (k0 : PySem.W.keepIn K (.ref f0) = true)
    (a1 : PySem.W.nsIn K mainGlobals "record" = some (some (.ref f1))) (l1 : K.lookup f1 = some ⟨oc1, od1, .func (PySem.W.fnOf "record" "record" (defArgs st_record) (defBody st_record) (defScope st_record) .none kV1 dc1 pm1 an1 cd1 ct1), sl1⟩) (c1 : PySem.W.codeIn K cd1 "record" = true) (k1 : PySem.W.keepIn K (.ref f1) = true)
    (a2 : PySem.W.nsIn K mainGlobals "journal_of" = some (some (.ref f2))) (l2 : K.lookup f2 = some ⟨oc2, od2, .func (PySem.W.fnOf "journal_of" "journal_of" (defArgs st_journal_of) (defBody st_journal_of) (defScope st_journal_of) .none kV2 dc2 pm2 an2 cd2 ct2), sl2⟩) (c2 : PySem.W.codeIn K cd2 "journal_of" = true) (k2 : PySem.W.keepIn K (.ref f2) = true)
    (a3 : PySem.W.nsIn K mainGlobals "payload_in" = some (some (.ref f3))) (l3 : K.lookup f3 = some ⟨oc3, od3, .func (PySem.W.fnOf "payload_in" "payload_in" (defArgs st_payload_in) (defBody st_payload_in) (defScope st_payload_in) .none kV3 dc3 pm3 an3 cd3 ct3), sl3⟩) (c3 : PySem.W.codeIn K cd3 "payload_in" = true) (k3 : PySem.W.keepIn K (.ref f3) = true)
    (a4 : PySem.W.nsIn K mainGlobals "payloads_in" = some (some (.ref f4))) (l4 : K.lookup f4 = some ⟨oc4, od4, .func (PySem.W.fnOf "payloads_in" "payloads_in" (defArgs st_payloads_in) (defBody st_payloads_in) (defScope st_payloads_in) .none kV4 dc4 pm4 an4 cd4 ct4), sl4⟩) (c4 : PySem.W.codeIn K cd4 "payloads_in" = true) (k4 : PySem.W.keepIn K (.ref f4) = true)
    (a5 : PySem.W.nsIn K mainGlobals "_law_cell" = some (some (.ref f5))) (l5 : K.lookup f5 = some ⟨oc5, od5, .func (PySem.W.fnOf "_law_cell" "_law_cell" (defArgs st__law_cell) (defBody st__law_cell) (defScope st__law_cell) .none kV5 dc5 pm5 an5 cd5 ct5), sl5⟩) (c5 : PySem.W.codeIn K cd5 "_law_cell" = true) (k5 : PySem.W.keepIn K (.ref f5) = true)
    (a6 : PySem.W.nsIn K mainGlobals "_law_numbers" = some (some (.ref f6))) (l6 : K.lookup f6 = some ⟨oc6, od6, .func (PySem.W.fnOf "_law_numbers" "_law_numbers" (defArgs st__law_numbers) (defBody st__law_numbers) (defScope st__law_numbers) .none kV6 dc6 pm6 an6 cd6 ct6), sl6⟩) (c6 : PySem.W.codeIn K cd6 "_law_numbers" = true) (k6 : PySem.W.keepIn K (.ref f6) = true)
    (a7 : PySem.W.nsIn K mainGlobals "_law_same" = some (some (.ref f7))) (l7 : K.lookup f7 = some ⟨oc7, od7, .func (PySem.W.fnOf "_law_same" "_law_same" (defArgs st__law_same) (defBody st__law_same) (defScope st__law_same) .none kV7 dc7 pm7 an7 cd7 ct7), sl7⟩) (c7 : PySem.W.codeIn K cd7 "_law_same" = true) (k7 : PySem.W.keepIn K (.ref f7) = true)
    (a8 : PySem.W.nsIn K mainGlobals "_law_signs" = some (some (.ref f8))) (l8 : K.lookup f8 = some ⟨oc8, od8, .func (PySem.W.fnOf "_law_signs" "_law_signs" (defArgs st__law_signs) (defBody st__law_signs) (defScope st__law_signs) .none kV8 dc8 pm8 an8 cd8 ct8), sl8⟩) (c8 : PySem.W.codeIn K cd8 "_law_signs" = true) (k8 : PySem.W.keepIn K (.ref f8) = true)
    (a9 : PySem.W.nsIn K mainGlobals "_law_bent" = some (some (.ref f9))) (l9 : K.lookup f9 = some ⟨oc9, od9, .func (PySem.W.fnOf "_law_bent" "_law_bent" (defArgs st__law_bent) (defBody st__law_bent) (defScope st__law_bent) .none kV9 dc9 pm9 an9 cd9 ct9), sl9⟩) (c9 : PySem.W.codeIn K cd9 "_law_bent" = true) (k9 : PySem.W.keepIn K (.ref f9) = true)
    (a10 : PySem.W.nsIn K mainGlobals "_law_check_of" = some (some (.ref f10))) (l10 : K.lookup f10 = some ⟨oc10, od10, .func (PySem.W.fnOf "_law_check_of" "_law_check_of" (defArgs st__law_check_of) (defBody st__law_check_of) (defScope st__law_check_of) .none kV10 dc10 pm10 an10 cd10 ct10), sl10⟩) (c10 : PySem.W.codeIn K cd10 "_law_check_of" = true) (k10 : PySem.W.keepIn K (.ref f10) = true)
    (a11 : PySem.W.nsIn K mainGlobals "_law_record" = some (some (.ref f11))) (l11 : K.lookup f11 = some ⟨oc11, od11, .func (PySem.W.fnOf "_law_record" "_law_record" (defArgs st__law_record) (defBody st__law_record) (defScope st__law_record) .none kV11 dc11 pm11 an11 cd11 ct11), sl11⟩) (c11 : PySem.W.codeIn K cd11 "_law_record" = true) (k11 : PySem.W.keepIn K (.ref f11) = true)
    (a12 : PySem.W.nsIn K mainGlobals "_law_journal" = some (some (.ref f12))) (l12 : K.lookup f12 = some ⟨oc12, od12, .func (PySem.W.fnOf "_law_journal" "_law_journal" (defArgs st__law_journal) (defBody st__law_journal) (defScope st__law_journal) .none kV12 dc12 pm12 an12 cd12 ct12), sl12⟩) (c12 : PySem.W.codeIn K cd12 "_law_journal" = true) (k12 : PySem.W.keepIn K (.ref f12) = true)
    (a13 : PySem.W.nsIn K mainGlobals "_law_records" = some (some (.ref f13))) (l13 : K.lookup f13 = some ⟨oc13, od13, .func (PySem.W.fnOf "_law_records" "_law_records" (defArgs st__law_records) (defBody st__law_records) (defScope st__law_records) .none kV13 dc13 pm13 an13 cd13 ct13), sl13⟩) (c13 : PySem.W.codeIn K cd13 "_law_records" = true) (k13 : PySem.W.keepIn K (.ref f13) = true)
    (a14 : PySem.W.nsIn K mainGlobals "_law_drawn" = some (some (.ref f14))) (l14 : K.lookup f14 = some ⟨oc14, od14, .func (PySem.W.fnOf "_law_drawn" "_law_drawn" (defArgs st__law_drawn) (defBody st__law_drawn) (defScope st__law_drawn) .none kV14 dc14 pm14 an14 cd14 ct14), sl14⟩) (c14 : PySem.W.codeIn K cd14 "_law_drawn" = true) (k14 : PySem.W.keepIn K (.ref f14) = true)
    (a15 : PySem.W.nsIn K mainGlobals "_law_spoilt_rows" = some (some (.ref f15))) (l15 : K.lookup f15 = some ⟨oc15, od15, .func (PySem.W.fnOf "_law_spoilt_rows" "_law_spoilt_rows" (defArgs st__law_spoilt_rows) (defBody st__law_spoilt_rows) (defScope st__law_spoilt_rows) .none kV15 dc15 pm15 an15 cd15 ct15), sl15⟩) (c15 : PySem.W.codeIn K cd15 "_law_spoilt_rows" = true) (k15 : PySem.W.keepIn K (.ref f15) = true)
    (a16 : PySem.W.nsIn K mainGlobals "_law_texts" = some (some (.ref f16))) (l16 : K.lookup f16 = some ⟨oc16, od16, .func (PySem.W.fnOf "_law_texts" "_law_texts" (defArgs st__law_texts) (defBody st__law_texts) (defScope st__law_texts) .none kV16 dc16 pm16 an16 cd16 ct16), sl16⟩) (c16 : PySem.W.codeIn K cd16 "_law_texts" = true) (k16 : PySem.W.keepIn K (.ref f16) = true)
    (a17 : PySem.W.nsIn K mainGlobals "law" = some (some (.ref f17))) (l17 : K.lookup f17 = some ⟨oc17, od17, .func (PySem.W.fnOf "law" "law" (defArgs st_law) (defBody st_law) (defScope st_law) .none kV17 dc17 pm17 an17 cd17 ct17), sl17⟩) (c17 : PySem.W.codeIn K cd17 "law" = true) (k17 : PySem.W.keepIn K (.ref f17) = true)
    (z_enumerate : PySem.W.nsIn K mainGlobals "enumerate" = some none)
    (z_ord : PySem.W.nsIn K mainGlobals "ord" = some none)
    (z_sum : PySem.W.nsIn K mainGlobals "sum" = some none)
    (z_len : PySem.W.nsIn K mainGlobals "len" = some none)
    (z_all : PySem.W.nsIn K mainGlobals "all" = some none)
    (z_int : PySem.W.nsIn K mainGlobals "int" = some none)
    (z_range : PySem.W.nsIn K mainGlobals "range" = some none)
    (z_isinstance : PySem.W.nsIn K mainGlobals "isinstance" = some none)
    (z_list : PySem.W.nsIn K mainGlobals "list" = some none)
    (z_tuple : PySem.W.nsIn K mainGlobals "tuple" = some none)
    (z_bool : PySem.W.nsIn K mainGlobals "bool" = some none)
    (z_str : PySem.W.nsIn K mainGlobals "str" = some none)
    (z_max : PySem.W.nsIn K mainGlobals "max" = some none)
    {t_MODULUS : Tok} (z_MODULUS : PySem.W.nsIn K mainGlobals "MODULUS" = some (some (.int 977 t_MODULUS)))
    {t_MOST_SIGNS : Tok} (z_MOST_SIGNS : PySem.W.nsIn K mainGlobals "MOST_SIGNS" = some (some (.int 20010 t_MOST_SIGNS)))
    : ∃ fd : FuncData, (∀ (s : Shared) (v : Value), BindsTo s fd ⟨[v], []⟩ [("script", v)]) ∧ ∀ base : Heap, K.In base → base.Ns mainGlobals mg → FnOk l.prog w K mg base (L2.CX l.prog w) 6 fa fd ["script"] (spLaw K) := by
  have e := hfa.symm.trans (PySem.W.mg_of X G a17)
  cases e
  have F0 := fun_mk (st := st_check_of) l0 c0 k0
  have B0 := F0.binds (ps := ["string"]) fun _ _ _ _ _ _ us hl => match us, hl with | [_], _ => rfl
  have F1 := fun_mk (st := st_record) l1 c1 k1
  have B1 := F1.binds (ps := ["number", "payload"]) fun _ _ _ _ _ _ us hl => match us, hl with | [_, _], _ => rfl
  have F2 := fun_mk (st := st_journal_of) l2 c2 k2
  have B2 := F2.binds (ps := ["payloads"]) fun _ _ _ _ _ _ us hl => match us, hl with | [_], _ => rfl
  have F3 := fun_mk (st := st_payload_in) l3 c3 k3
  have B3 := F3.binds (ps := ["number", "row"]) fun _ _ _ _ _ _ us hl => match us, hl with | [_, _], _ => rfl
  have F4 := fun_mk (st := st_payloads_in) l4 c4 k4
  have B4 := F4.binds (ps := ["string"]) fun _ _ _ _ _ _ us hl => match us, hl with | [_], _ => rfl
  have F5 := fun_mk (st := st__law_cell) l5 c5 k5
  have B5 := F5.binds (ps := ["script", "k"]) fun _ _ _ _ _ _ us hl => match us, hl with | [_, _], _ => rfl
  have F6 := fun_mk (st := st__law_numbers) l6 c6 k6
  have B6 := F6.binds (ps := ["cell", "count", "limit"]) fun _ _ _ _ _ _ us hl => match us, hl with | [_, _, _], _ => rfl
  have F7 := fun_mk (st := st__law_same) l7 c7 k7
  have B7 := F7.binds (ps := ["told", "due"]) fun _ _ _ _ _ _ us hl => match us, hl with | [_, _], _ => rfl
  have F8 := fun_mk (st := st__law_signs) l8 c8 k8
  have B8 := F8.binds (ps := ["draw", "count"]) fun _ _ _ _ _ _ us hl => match us, hl with | [_, _], _ => rfl
  have F9 := fun_mk (st := st__law_bent) l9 c9 k9
  have B9 := F9.binds (ps := ["text", "draws", "at"]) fun _ _ _ _ _ _ us hl => match us, hl with | [_, _, _], _ => rfl
  have F10 := fun_mk (st := st__law_check_of) l10 c10 k10
  have B10 := F10.binds (ps := ["text"]) fun _ _ _ _ _ _ us hl => match us, hl with | [_], _ => rfl
  have F11 := fun_mk (st := st__law_record) l11 c11 k11
  have B11 := F11.binds (ps := ["number", "payload"]) fun _ _ _ _ _ _ us hl => match us, hl with | [_, _], _ => rfl
  have F12 := fun_mk (st := st__law_journal) l12 c12 k12
  have B12 := F12.binds (ps := ["payloads"]) fun _ _ _ _ _ _ us hl => match us, hl with | [_], _ => rfl
  have F13 := fun_mk (st := st__law_records) l13 c13 k13
  have B13 := F13.binds (ps := ["text"]) fun _ _ _ _ _ _ us hl => match us, hl with | [_], _ => rfl
  have F14 := fun_mk (st := st__law_drawn) l14 c14 k14
  have B14 := F14.binds (ps := ["draw", "count"]) fun _ _ _ _ _ _ us hl => match us, hl with | [_, _], _ => rfl
  have F15 := fun_mk (st := st__law_spoilt_rows) l15 c15 k15
  have B15 := F15.binds (ps := ["lines", "draws"]) fun _ _ _ _ _ _ us hl => match us, hl with | [_, _], _ => rfl
  have F16 := fun_mk (st := st__law_texts) l16 c16 k16
  have B16 := F16.binds (ps := ["lines", "draws"]) fun _ _ _ _ _ _ us hl => match us, hl with | [_, _], _ => rfl
  have F17 := fun_mk (st := st_law) l17 c17 k17
  have B17 := F17.binds (ps := ["script"]) fun _ _ _ _ _ _ us hl => match us, hl with | [_], _ => rfl
  let T : Top K mg := {
    a_check_of := f0, d_check_of := _, f_check_of := F0, g_check_of := PySem.W.mg_of X G a0, b_check_of := B0,
    a_record := f1, d_record := _, f_record := F1, g_record := PySem.W.mg_of X G a1, b_record := B1,
    a_journal_of := f2, d_journal_of := _, f_journal_of := F2, g_journal_of := PySem.W.mg_of X G a2, b_journal_of := B2,
    a_payload_in := f3, d_payload_in := _, f_payload_in := F3, g_payload_in := PySem.W.mg_of X G a3, b_payload_in := B3,
    a_payloads_in := f4, d_payloads_in := _, f_payloads_in := F4, g_payloads_in := PySem.W.mg_of X G a4, b_payloads_in := B4,
    a__law_cell := f5, d__law_cell := _, f__law_cell := F5, g__law_cell := PySem.W.mg_of X G a5, b__law_cell := B5,
    a__law_numbers := f6, d__law_numbers := _, f__law_numbers := F6, g__law_numbers := PySem.W.mg_of X G a6, b__law_numbers := B6,
    a__law_same := f7, d__law_same := _, f__law_same := F7, g__law_same := PySem.W.mg_of X G a7, b__law_same := B7,
    a__law_signs := f8, d__law_signs := _, f__law_signs := F8, g__law_signs := PySem.W.mg_of X G a8, b__law_signs := B8,
    a__law_bent := f9, d__law_bent := _, f__law_bent := F9, g__law_bent := PySem.W.mg_of X G a9, b__law_bent := B9,
    a__law_check_of := f10, d__law_check_of := _, f__law_check_of := F10, g__law_check_of := PySem.W.mg_of X G a10, b__law_check_of := B10,
    a__law_record := f11, d__law_record := _, f__law_record := F11, g__law_record := PySem.W.mg_of X G a11, b__law_record := B11,
    a__law_journal := f12, d__law_journal := _, f__law_journal := F12, g__law_journal := PySem.W.mg_of X G a12, b__law_journal := B12,
    a__law_records := f13, d__law_records := _, f__law_records := F13, g__law_records := PySem.W.mg_of X G a13, b__law_records := B13,
    a__law_drawn := f14, d__law_drawn := _, f__law_drawn := F14, g__law_drawn := PySem.W.mg_of X G a14, b__law_drawn := B14,
    a__law_spoilt_rows := f15, d__law_spoilt_rows := _, f__law_spoilt_rows := F15, g__law_spoilt_rows := PySem.W.mg_of X G a15, b__law_spoilt_rows := B15,
    a__law_texts := f16, d__law_texts := _, f__law_texts := F16, g__law_texts := PySem.W.mg_of X G a16, b__law_texts := B16,
    a_law := fa, d_law := _, f_law := F17, g_law := PySem.W.mg_of X G a17, b_law := B17,
    z_enumerate := PySem.W.mg_none_of X G z_enumerate,
    z_ord := PySem.W.mg_none_of X G z_ord,
    z_sum := PySem.W.mg_none_of X G z_sum,
    z_len := PySem.W.mg_none_of X G z_len,
    z_all := PySem.W.mg_none_of X G z_all,
    z_int := PySem.W.mg_none_of X G z_int,
    z_range := PySem.W.mg_none_of X G z_range,
    z_isinstance := PySem.W.mg_none_of X G z_isinstance,
    z_list := PySem.W.mg_none_of X G z_list,
    z_tuple := PySem.W.mg_none_of X G z_tuple,
    z_bool := PySem.W.mg_none_of X G z_bool,
    z_str := PySem.W.mg_none_of X G z_str,
    z_max := PySem.W.mg_none_of X G z_max,
    c_MODULUS := ⟨_, PySem.W.mg_of X G z_MODULUS⟩,
    c_MOST_SIGNS := ⟨_, PySem.W.mg_of X G z_MOST_SIGNS⟩ }
  exact ⟨PySem.W.fnOf "law" "law" (defArgs st_law) (defBody st_law) (defScope st_law) .none kV17 dc17 pm17 an17 cd17 ct17, fun s v => .of_eq rfl, fun base _ _ => FnOk.imp (ok_law T) (law_sp (mg := mg))⟩
end PL
open PySem PySem.W PyProof.Rows
set_option maxHeartbeats 0 in
theorem PySem.Challenge.cw_asifanew_k62_whole_journals_and_their_re_holds : PySem.Challenge.rw_asifanew_k62_whole_journals_and_their_re.Holds := by
  w_on; o_law; k_head; (case hw => w_witness2)
  k_fill
  refine L2.walk_of (l := PySem.Challenge.rw_asifanew_k62_whole_journals_and_their_re) (n := 63) (k := 6) (x := "script") (CX := fun w => L2.CX PySem.Challenge.rw_asifanew_k62_whole_journals_and_their_re.prog w) (sp := fun w => PL.spLaw _) rfl (by decide) rfl ⟨rfl, by decide, by decide⟩ (fun w h Y => PySem.W.kIn_of Y) ?F (fun _ _ a ns hl _ hS => ⟨a, ns, rfl, hS, fun _ => rfl⟩) (fun _ _ _ _ _ h => by
    obtain ⟨_, _, _, _, _, _, _, _, _, _, _, _, z⟩ := h
    exact z)
  case F =>
    intro w mg fa h KX G hmg
    refine' PL.all_mk KX G hmg ?a0 ?l0 ?c0 ?k0 ?a1 ?l1 ?c1 ?k1 ?a2 ?l2 ?c2 ?k2 ?a3 ?l3 ?c3 ?k3 ?a4 ?l4 ?c4 ?k4 ?a5 ?l5 ?c5 ?k5 ?a6 ?l6 ?c6 ?k6 ?a7 ?l7 ?c7 ?k7 ?a8 ?l8 ?c8 ?k8 ?a9 ?l9 ?c9 ?k9 ?a10 ?l10 ?c10 ?k10 ?a11 ?l11 ?c11 ?k11 ?a12 ?l12 ?c12 ?k12 ?a13 ?l13 ?c13 ?k13 ?a14 ?l14 ?c14 ?k14 ?a15 ?l15 ?c15 ?k15 ?a16 ?l16 ?c16 ?k16 ?a17 ?l17 ?c17 ?k17 ?z_enumerate ?z_ord ?z_sum ?z_len ?z_all ?z_int ?z_range ?z_isinstance ?z_list ?z_tuple ?z_bool ?z_str ?z_max ?z_MODULUS ?z_MOST_SIGNS
    (case a0 => k_is)
    (case l0 => k_is)
    (case c0 => k_is)
    (case k0 => k_is)
    (case a1 => k_is)
    (case l1 => k_is)
    (case c1 => k_is)
    (case k1 => k_is)
    (case a2 => k_is)
    (case l2 => k_is)
    (case c2 => k_is)
    (case k2 => k_is)
    (case a3 => k_is)
    (case l3 => k_is)
    (case c3 => k_is)
    (case k3 => k_is)
    (case a4 => k_is)
    (case l4 => k_is)
    (case c4 => k_is)
    (case k4 => k_is)
    (case a5 => k_is)
    (case l5 => k_is)
    (case c5 => k_is)
    (case k5 => k_is)
    (case a6 => k_is)
    (case l6 => k_is)
    (case c6 => k_is)
    (case k6 => k_is)
    (case a7 => k_is)
    (case l7 => k_is)
    (case c7 => k_is)
    (case k7 => k_is)
    (case a8 => k_is)
    (case l8 => k_is)
    (case c8 => k_is)
    (case k8 => k_is)
    (case a9 => k_is)
    (case l9 => k_is)
    (case c9 => k_is)
    (case k9 => k_is)
    (case a10 => k_is)
    (case l10 => k_is)
    (case c10 => k_is)
    (case k10 => k_is)
    (case a11 => k_is)
    (case l11 => k_is)
    (case c11 => k_is)
    (case k11 => k_is)
    (case a12 => k_is)
    (case l12 => k_is)
    (case c12 => k_is)
    (case k12 => k_is)
    (case a13 => k_is)
    (case l13 => k_is)
    (case c13 => k_is)
    (case k13 => k_is)
    (case a14 => k_is)
    (case l14 => k_is)
    (case c14 => k_is)
    (case k14 => k_is)
    (case a15 => k_is)
    (case l15 => k_is)
    (case c15 => k_is)
    (case k15 => k_is)
    (case a16 => k_is)
    (case l16 => k_is)
    (case c16 => k_is)
    (case k16 => k_is)
    (case a17 => k_is)
    (case l17 => k_is)
    (case c17 => k_is)
    (case k17 => k_is)
    (case z_enumerate => k_is)
    (case z_ord => k_is)
    (case z_sum => k_is)
    (case z_len => k_is)
    (case z_all => k_is)
    (case z_int => k_is)
    (case z_range => k_is)
    (case z_isinstance => k_is)
    (case z_list => k_is)
    (case z_tuple => k_is)
    (case z_bool => k_is)
    (case z_str => k_is)
    (case z_max => k_is)
    (case z_MODULUS => k_is)
    (case z_MOST_SIGNS => k_is)
