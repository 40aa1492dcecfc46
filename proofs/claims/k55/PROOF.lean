import PyProof.Rows.All
import Wide.All
import OpenK.AllK
import Wide.FinOn
import HandS.ForMost
import HandS.ForExc
import HandS.FStr
import HandS.IsInst
import HandS.Style
import HandS.Flow
import HandS.StrMore
import HandS.TupAny
import KE.GoesMore
import PyProof.EnumMake
import HandS.ReplaceLit
import HandS.ReplaceList
import HandS.ReplaceDef
import PyProof.StrOps2
import HandS.HeadHook3
import HandS.WrittenGet
import PyProof.ExcBaseAll.ValueError
import KE.KExcIs
import PySem.Challenge.RW_asifanew_k55_rows_of_words
set_option Elab.async false
set_option linter.all false
set_option maxRecDepth 100000
set_option maxHeartbeats 4000000
/-! PL1: a layer of pure data over the hand layer: data D, what stands for them in the heap, lifted readings. -/
namespace PL
open PySem PySem.Spec L2

/-- pure data: texts are lists of code points; lst: a list that stands in the heap by itself; rol: a list that is only read -/
inductive D where
  | non | bl (b : Bool) | int (i : Int) | str (x : List Nat) | tup (xs : List D) | lst (xs : List D) | rol (xs : List D)
/-- how a value was come by: only looked at, to be kept, newly made (a list that nobody else holds) -/
inductive Kd where
  | pk | cl | fr
  deriving DecidableEq
inductive R (α : Type) where
  | ok (a : α) | exc (c : Str) | bad
namespace R
def bind {α β : Type} : R α → (α → R β) → R β
  | .ok a, f => f a
  | .exc c, _ => .exc c
  | .bad, _ => .bad
def map {α β : Type} (r : R α) (f : α → β) : R β := r.bind fun a => .ok (f a)
/-- where nothing may be raised -/
def calm {α : Type} : R α → R α
  | .ok a => .ok a
  | _ => .bad
@[simp] theorem bind_ok {α β : Type} (a : α) (f : α → R β) : (R.ok a).bind f = f a := rfl
@[simp] theorem bind_exc {α β : Type} (c : Str) (f : α → R β) : (R.exc c : R α).bind f = .exc c := rfl
@[simp] theorem bind_bad {α β : Type} (f : α → R β) : (R.bad : R α).bind f = .bad := rfl
@[simp] theorem map_ok {α β : Type} (a : α) (f : α → β) : (R.ok a).map f = .ok (f a) := rfl
@[simp] theorem map_exc {α β : Type} (c : Str) (f : α → β) : (R.exc c : R α).map f = .exc c := rfl
@[simp] theorem map_bad {α β : Type} (f : α → β) : (R.bad : R α).map f = .bad := rfl
@[simp] theorem calm_ok {α : Type} (a : α) : (R.ok a).calm = .ok a := rfl
end R
abbrev Ev := Kd × D
abbrev Sl := Option (Bool × D)
abbrev Ro := List Sl
abbrev EF := Ro → R Ev
abbrev TF := Ro → R Bool
abbrev AF := Ro → R (List Ev)

def S (a : List Nat) : Str := ⟨a.toArray⟩
theorem S_len (a : List Nat) : (S a).length = a.length := by simp [S, Str.length]
theorem S_cps (a : List Nat) : (S a).cps.toList = a := by simp [S]
theorem S_inj {a b : List Nat} (h : S a = S b) : a = b := by
  have := congrArg (fun z => z.cps.toList) h
  simpa [S] using this
theorem S_app (a b : List Nat) : S a ++ S b = S (a ++ b) := by
  show (⟨(S a).cps ++ (S b).cps⟩ : Str) = _
  simp [S]
theorem S_of (x : Str) : S x.cps.toList = x := by cases x; simp [S]

/-! ### what stands for data -/
mutual
def Rp (K : PySem.W.Frag) (H : Hp) : D → V → Prop
  | .non, v => v = .non
  | .bl b, v => v = .bl b
  | .int i, v => v = .int i
  | .str x, v => v = .str (S x)
  | .tup xs, v => ∃ a vs, v = .ref a ∧ SqT K H a vs ∧ RpL K H xs vs
  | .lst xs, v => ∃ a vs, v = .ref a ∧ H a = some (.lst vs) ∧ RpL K H xs vs
  | .rol xs, v => ∃ a vs, v = .ref a ∧ SqL K H a vs ∧ RpL K H xs vs
def RpL (K : PySem.W.Frag) (H : Hp) : List D → List V → Prop
  | [], vs => vs = []
  | x :: xs, vs => ∃ v r, vs = v :: r ∧ Rp K H x v ∧ RpL K H xs r
end

theorem same_seqT {K : PySem.W.Frag} {H H' : Hp} {a : Addr} {xs : List V} (e : Same H H') (h : SqT K H a xs) : SqT K H' a xs := by
  rcases h with (h | ⟨o, h⟩) | h
  · exact .inl (.inl (e _ _ h))
  · exact .inl (.inr ⟨o, e _ _ h⟩)
  · exact .inr h

mutual
theorem Rp.mono {K : PySem.W.Frag} {H H' : Hp} (e : Same H H') : ∀ (d : D) (v : V), Rp K H d v → Rp K H' d v
  | .non, _, h => h
  | .bl _, _, h => h
  | .int _, _, h => h
  | .str _, _, h => h
  | .tup xs, _, ⟨a, vs, h1, h2, h3⟩ => ⟨a, vs, h1, same_seqT e h2, RpL.mono e xs vs h3⟩
  | .lst xs, _, ⟨a, vs, h1, h2, h3⟩ => ⟨a, vs, h1, e _ _ h2, RpL.mono e xs vs h3⟩
  | .rol xs, _, ⟨a, vs, h1, h2, h3⟩ => ⟨a, vs, h1, e.seq h2, RpL.mono e xs vs h3⟩
theorem RpL.mono {K : PySem.W.Frag} {H H' : Hp} (e : Same H H') : ∀ (ds : List D) (vs : List V), RpL K H ds vs → RpL K H' ds vs
  | [], _, h => h
  | d :: ds, _, ⟨v, r, h1, h2, h3⟩ => ⟨v, r, h1, Rp.mono e d v h2, RpL.mono e ds r h3⟩
end
section
variable {K : PySem.W.Frag} {H H' : Hp}
theorem RpL.len : ∀ {ds : List D} {vs : List V}, RpL K H ds vs → vs.length = ds.length
  | [], _, h => by rw [show _ = _ from h]; rfl
  | _ :: ds, _, ⟨v, r, h1, _, h3⟩ => by rw [h1, List.length_cons, List.length_cons, RpL.len h3]
theorem RpL.get : ∀ {ds : List D} {vs : List V} {i : Nat} {d : D}, RpL K H ds vs → ds[i]? = some d → ∃ v, vs[i]? = some v ∧ Rp K H d v
  | [], _, _, _, _, h => by simp at h
  | _ :: ds, _, 0, d, ⟨v, r, h1, h2, _⟩, h => by
    simp at h; subst h; subst h1; exact ⟨v, rfl, h2⟩
  | _ :: ds, _, i + 1, d, ⟨v, r, h1, _, h3⟩, h => by
    obtain ⟨w, e1, e2⟩ := RpL.get (i := i) h3 (by simpa using h)
    subst h1; exact ⟨w, by simpa using e1, e2⟩
theorem RpL.app : ∀ {ds es : List D} {vs ws : List V}, RpL K H ds vs → RpL K H es ws → RpL K H (ds ++ es) (vs ++ ws)
  | [], _, _, _, h, k => by rw [show _ = _ from h]; exact k
  | _ :: ds, _, _, _, ⟨v, r, h1, h2, h3⟩, k => ⟨v, r ++ _, by rw [h1]; rfl, h2, RpL.app h3 k⟩
theorem RpL.one {d : D} {v : V} (h : Rp K H d v) : RpL K H [d] [v] := ⟨v, [], rfl, h, rfl⟩
theorem RpL.take (n : Nat) : ∀ {ds : List D} {vs : List V}, RpL K H ds vs → RpL K H (ds.take n) (vs.take n) := by
  induction n with
  | zero => intro ds vs _; rfl
  | succ n ih =>
    intro ds vs h
    cases ds with
    | nil => rw [show vs = _ from h]; rfl
    | cons d ds => obtain ⟨v, r, h1, h2, h3⟩ := h; subst h1; exact ⟨v, _, rfl, h2, ih h3⟩
theorem RpL.drop (n : Nat) : ∀ {ds : List D} {vs : List V}, RpL K H ds vs → RpL K H (ds.drop n) (vs.drop n) := by
  induction n with
  | zero => intro ds vs h; exact h
  | succ n ih =>
    intro ds vs h
    cases ds with
    | nil => rw [show vs = _ from h]; rfl
    | cons d ds => obtain ⟨v, r, h1, h2, h3⟩ := h; subst h1; exact ih h3
theorem RpL.set {d : D} {v : V} (q : Rp K H d v) : ∀ {ds : List D} {vs : List V} (i : Nat), RpL K H ds vs → RpL K H (ds.set i d) (vs.set i v)
  | [], _, _, h => by rw [show _ = _ from h]; rfl
  | _ :: ds, _, 0, ⟨w, r, h1, _, h3⟩ => by subst h1; exact ⟨v, r, rfl, q, h3⟩
  | _ :: ds, _, i + 1, ⟨w, r, h1, h2, h3⟩ => by subst h1; exact ⟨w, _, rfl, h2, RpL.set q i h3⟩
theorem RpL.rev : ∀ {ds : List D} {vs : List V}, RpL K H ds vs → RpL K H ds.reverse vs.reverse
  | [], _, h => by rw [show _ = _ from h]; rfl
  | _ :: ds, _, ⟨v, r, h1, h2, h3⟩ => by
    subst h1
    rw [List.reverse_cons, List.reverse_cons]
    exact RpL.app (RpL.rev h3) (RpL.one h2)
theorem RpL.ints : ∀ {ns : List Int} {vs : List V}, RpL K H (ns.map D.int) vs → vs = ns.map V.int
  | [], _, h => h
  | n :: ns, _, ⟨v, r, h1, h2, h3⟩ => by
    have e : v = V.int n := h2
    rw [h1, e, RpL.ints h3]; rfl
theorem RpL.of_ints : ∀ (ns : List Int), RpL K H (ns.map D.int) (ns.map V.int)
  | [] => rfl
  | n :: ns => ⟨_, _, rfl, rfl, RpL.of_ints ns⟩
theorem RpL.bls : ∀ {ns : List Bool} {vs : List V}, RpL K H (ns.map D.bl) vs → vs = ns.map V.bl
  | [], _, h => h
  | n :: ns, _, ⟨v, r, h1, h2, h3⟩ => by
    have e : v = V.bl n := h2
    rw [h1, e, RpL.bls h3]; rfl
theorem RpL.strs : ∀ {ns : List (List Nat)} {vs : List V}, RpL K H (ns.map D.str) vs → vs = (ns.map S).map V.str
  | [], _, h => h
  | n :: ns, _, ⟨v, r, h1, h2, h3⟩ => by
    have e : v = V.str (S n) := h2
    rw [h1, e, RpL.strs h3]; rfl
theorem RpL.of_strs : ∀ (ns : List (List Nat)), RpL K H (ns.map D.str) ((ns.map S).map V.str)
  | [] => rfl
  | n :: ns => ⟨_, _, rfl, rfl, RpL.of_strs ns⟩
end

/-! ### parts of the heap that are not to be seen -/
open Classical in
noncomputable def hd (H : Hp) (P : Addr → Prop) : Hp := fun b => if P b then none else H b
theorem hd_some {H : Hp} {P : Addr → Prop} {b : Addr} {o : HO} : hd H P b = some o ↔ ¬ P b ∧ H b = some o := by
  unfold hd
  by_cases h : P b
  · rw [if_pos h]; exact ⟨fun e => (nomatch e), fun e => absurd h e.1⟩
  · rw [if_neg h]; exact ⟨fun e => ⟨h, e⟩, fun e => e.2⟩
theorem hd_le {H : Hp} {P : Addr → Prop} : Same (hd H P) H := fun _ _ h => (hd_some.mp h).2
theorem hd_mono {H H' : Hp} {P P' : Addr → Prop} (h : ∀ b o, H b = some o → ¬ P b → H' b = some o ∧ ¬ P' b) : Same (hd H P) (hd H' P') := fun b o e => by
  obtain ⟨e1, e2⟩ := hd_some.mp e
  obtain ⟨e3, e4⟩ := h b o e2 e1
  exact hd_some.mpr ⟨e4, e3⟩
theorem hd_same {H H' : Hp} {P : Addr → Prop} (s : Same H H') : Same (hd H P) (hd H' P) := hd_mono fun b o e n => ⟨s b o e, n⟩
abbrev Own := Nat → Option Addr
def ob (hid : Addr → Prop) (own : Own) (b : Addr) : Prop := hid b ∨ ∃ i, own i = some b
abbrev noOwn : Own := fun _ => none
theorem ob_no {hid : Addr → Prop} {b : Addr} : ob hid noOwn b ↔ hid b := ⟨fun h => h.elim (fun z => z) (fun ⟨_, e⟩ => (nomatch e)), fun h => Or.inl h⟩
theorem hd_ob_hid {H : Hp} {hid : Addr → Prop} {own : Own} : Same (hd H (ob hid own)) (hd H hid) := hd_mono fun _ _ e n => ⟨e, fun z => n (.inl z)⟩
theorem hd_no {H : Hp} {hid : Addr → Prop} : Same (hd H hid) (hd H (ob hid noOwn)) := hd_mono fun _ _ e n => ⟨e, fun z => n (ob_no.mp z)⟩

/-- an object of the call's own, its parts to be seen in Hc -/
def MR (K : PySem.W.Frag) (Hc : Hp) (o : Option HO) : D → Prop
  | .lst ds => ∃ vs, o = some (.lst vs) ∧ RpL K Hc ds vs
  | _ => False
/-- a value that is looked at: a list may be one of the call's own, what it holds is to be seen -/
def RT (K : PySem.W.Frag) (hid : Addr → Prop) (own : Own) (H : Hp) : D → V → Prop
  | .lst ds, v => ∃ a vs, v = .ref a ∧ hd H hid a = some (.lst vs) ∧ RpL K (hd H (ob hid own)) ds vs
  | d, v => Rp K (hd H (ob hid own)) d v
def RV (K : PySem.W.Frag) (hid : Addr → Prop) (own : Own) (H H' : Hp) : Kd → D → V → Prop
  | .pk, d, v => RT K hid own H' d v
  | .cl, d, v => Rp K (hd H' (ob hid own)) d v
  | .fr, d, v => ∃ a, v = .ref a ∧ H a = none ∧ ¬ ob hid own a ∧ MR K (hd H' fun b => ob hid own b ∨ b = a) (H' a) d
structure SR (K : PySem.W.Frag) (hid : Addr → Prop) (own : Own) (H : Hp) (ρ : Ro) (σ : St) : Prop where
  len : ρ.length = σ.length
  val : ∀ (i : Nat) (d : D), ρ[i]? = some (some (false, d)) → ∃ v, σ[i]? = some (some v) ∧ Rp K (hd H (ob hid own)) d v
  ow : ∀ (i : Nat) (d : D), ρ[i]? = some (some (true, d)) → ∃ a, own i = some a ∧ σ[i]? = some (some (.ref a)) ∧ MR K (hd H (ob hid own)) (H a) d
  inj : ∀ (i j : Nat) (a : Addr), own i = some a → own j = some a → i = j
  oh : ∀ (i : Nat) (a : Addr), own i = some a → ¬ hid a ∧ (∃ xs, H a = some (.lst xs)) ∧ ∃ d, ρ[i]? = some (some (true, d))
  hin : ∀ b, hid b → H b ≠ none

section
variable {K : PySem.W.Frag} {hid : Addr → Prop} {own : Own} {H H1 H2 H' : Hp} {ρ : Ro} {σ : St}
theorem MR.mono {Hc Hc' : Hp} {o : Option HO} : ∀ {d : D}, Same Hc Hc' → MR K Hc o d → MR K Hc' o d
  | .lst _, s, ⟨vs, e, r⟩ => ⟨vs, e, RpL.mono s _ _ r⟩
  | .non, _, h => h.elim
  | .bl _, _, h => h.elim
  | .int _, _, h => h.elim
  | .str _, _, h => h.elim
  | .tup _, _, h => h.elim
  | .rol _, _, h => h.elim
theorem RT.mono (s : Same H H') : ∀ {d : D} {v : V}, RT K hid own H d v → RT K hid own H' d v
  | .lst _, _, ⟨a, vs, h1, h2, h3⟩ => ⟨a, vs, h1, hd_same s _ _ h2, RpL.mono (hd_same s) _ _ h3⟩
  | .non, _, h => h
  | .bl _, _, h => h
  | .int _, _, h => h
  | .str _, _, h => h
  | .tup _, v, h => Rp.mono (hd_same s) _ _ h
  | .rol _, v, h => Rp.mono (hd_same s) _ _ h
theorem RT.of_cl : ∀ {d : D} {v : V}, Rp K (hd H (ob hid own)) d v → RT K hid own H d v
  | .lst _, _, ⟨a, vs, h1, h2, h3⟩ => ⟨a, vs, h1, hd_ob_hid _ _ h2, h3⟩
  | .non, _, h => h
  | .bl _, _, h => h
  | .int _, _, h => h
  | .str _, _, h => h
  | .tup _, v, h => h
  | .rol _, v, h => h
/-- is it a list? -/
def isL : D → Bool
  | .lst _ => true
  | _ => false
theorem RT.cl : ∀ {d : D} {v : V}, isL d = false → RT K hid own H d v → Rp K (hd H (ob hid own)) d v
  | .lst _, _, n, _ => nomatch n
  | .non, _, _, h => h
  | .bl _, _, _, h => h
  | .int _, _, _, h => h
  | .str _, _, _, h => h
  | .tup _, v, _, h => h
  | .rol _, v, _, h => h
/-- what is looked at, in the heap without what the callers hide -/
theorem RT.rp : ∀ {d : D} {v : V}, RT K hid own H d v → Rp K (hd H hid) d v
  | .lst _, _, ⟨a, vs, h1, h2, h3⟩ => ⟨a, vs, h1, h2, RpL.mono hd_ob_hid _ _ h3⟩
  | .non, _, h => h
  | .bl _, _, h => h
  | .int _, _, h => h
  | .str _, _, h => h
  | .tup _, v, h => Rp.mono hd_ob_hid _ _ h
  | .rol _, v, h => Rp.mono hd_ob_hid _ _ h
theorem RV.fr_cl {a : Addr} {d : D} (ha : ¬ ob hid own a) (h : MR K (hd H' fun b => ob hid own b ∨ b = a) (H' a) d) : Rp K (hd H' (ob hid own)) d (.ref a) := by
  cases d with
  | lst ds =>
    obtain ⟨vs, e, r⟩ := h
    exact ⟨a, vs, rfl, hd_some.mpr ⟨ha, e⟩, RpL.mono (hd_mono fun b o e n => ⟨e, fun z => n (.inl z)⟩) _ _ r⟩
  | _ => exact h.elim
theorem RV.rt : ∀ {k : Kd} {d : D} {v : V}, RV K hid own H H' k d v → RT K hid own H' d v
  | .pk, _, _, h => h
  | .cl, _, _, h => RT.of_cl h
  | .fr, _, _, ⟨a, e, _, ha, m⟩ => by rw [e]; exact RT.of_cl (RV.fr_cl ha m)
/-- may it be kept? -/
def okE : Ev → Bool
  | (.pk, d) => !isL d
  | _ => true
theorem RV.clean : ∀ {k : Kd} {d : D} {v : V}, okE (k, d) = true → RV K hid own H H' k d v → Rp K (hd H' (ob hid own)) d v
  | .pk, d, _, o, h => RT.cl (by have o : (!isL d) = true := o; simpa using o) h
  | .cl, _, _, _, h => h
  | .fr, _, _, _, ⟨a, e, _, ha, m⟩ => by rw [e]; exact RV.fr_cl ha m
theorem RV.base (s : Same H H1) : ∀ {k : Kd} {d : D} {v : V}, RV K hid own H1 H' k d v → RV K hid own H H' k d v
  | .pk, _, _, h => h
  | .cl, _, _, h => h
  | .fr, _, _, ⟨a, e, n, m⟩ => ⟨a, e, s.free n, m⟩
theorem SR.mono (s : Same H H') (h : SR K hid own H ρ σ) : SR K hid own H' ρ σ where
  len := h.len
  val := fun i d e => let ⟨v, e1, e2⟩ := h.val i d e; ⟨v, e1, Rp.mono (hd_same s) _ _ e2⟩
  ow := fun i d e => by
    obtain ⟨a, e1, e2, e3⟩ := h.ow i d e
    refine ⟨a, e1, e2, ?_⟩
    obtain ⟨_, ⟨xs, e4⟩, _⟩ := h.oh i a e1
    rw [s _ _ e4, ← e4]
    exact e3.mono (hd_same s)
  inj := h.inj
  oh := fun i a e => let ⟨h1, ⟨xs, h2⟩, h3⟩ := h.oh i a e; ⟨h1, ⟨xs, s _ _ h2⟩, h3⟩
  hin := fun b hb z => h.hin b hb (s.free z)
/-- what is not to be seen stands in the heap -/
theorem SR.dom (h : SR K hid own H ρ σ) : ∀ b, ob hid own b → H b ≠ none
  | b, .inl z => h.hin b z
  | b, .inr ⟨i, e⟩ => by
    obtain ⟨_, ⟨xs, h2⟩, _⟩ := h.oh i b e
    rw [h2]; exact fun z => nomatch z
theorem SR.vis (h : SR K hid own H ρ σ) {p : Addr} (n : H p = none) : ¬ ob hid own p := fun z => h.dom p z n
end

/-! ### readings -/
theorem imp_pe {X : Cx} {e : Expr} {t t' : TE} (h : PE X e t) (k : ∀ σ H Q, t' σ H Q → t σ H Q) : PE X e t' := ⟨fun pins s σ H Q I q => h.run pins s σ H Q I (k _ _ _ q)⟩
theorem imp_pt {X : Cx} {e : Expr} {t t' : TT} (h : PT X e t) (k : ∀ σ H Q, t' σ H Q → t σ H Q) : PT X e t' := ⟨fun pins s σ H Q I q => h.run pins s σ H Q I (k _ _ _ q)⟩
theorem imp_pw {X : Cx} {e : Expr} {t t' : TT} (h : PW X e t) (k : ∀ σ H Q, t' σ H Q → t σ H Q) : PW X e t' := ⟨fun wh pins s σ H Q I q => h.run wh pins s σ H Q I (k _ _ _ q)⟩
theorem imp_pa {X : Cx} {e : List Expr} {t t' : TA} (h : PA X e t) (k : ∀ σ H Q, t' σ H Q → t σ H Q) : PA X e t' := ⟨fun pos pins s σ H Q I q => h.run pos pins s σ H Q I (k _ _ _ q)⟩
theorem imp_ps {X : Cx} {e : Stmt} {t t' : TS} (h : PS X e t) (k : ∀ D σ H, t' D σ H → t D σ H) : PS X e t' := ⟨fun pins s σ H D I q => h.run pins s σ H D I (k _ _ _ q)⟩
theorem imp_pss {X : Cx} {e : List Stmt} {t t' : TS} (h : PSs X e t) (k : ∀ D σ H, t' D σ H → t D σ H) : PSs X e t' := ⟨fun pins s σ H D I q => h.run pins s σ H D I (k _ _ _ q)⟩

/-- how an exception of the class c is wished for -/
abbrev Wc (mg : Str → Option Value) (W : WX) (σ : St) (c : Str) (H : Hp) : Prop := ∀ C, mg c = some (.ref C) → W (.ref C) none σ H
def Post (K : PySem.W.Frag) (hid : Addr → Prop) (own : Own) (H : Hp) (Wx : Str → Hp → Prop) (r : R Ev) (Q : VK) : Prop :=
  match r with
  | .ok e => ∀ H' v, Same H H' → RV K hid own H H' e.1 e.2 v → Q v H'
  | .exc c => ∀ H', Same H H' → Wx c H'
  | .bad => False
def PostT (H : Hp) (Wx : Str → Hp → Prop) (r : R Bool) (Q : Bool → Hp → Prop) : Prop :=
  match r with
  | .ok b => ∀ H', Same H H' → Q b H'
  | .exc c => ∀ H', Same H H' → Wx c H'
  | .bad => False
def RVs (K : PySem.W.Frag) (hid : Addr → Prop) (own : Own) (H H' : Hp) : List Ev → List V → Prop
  | [], vs => vs = []
  | e :: es, vs => ∃ v r, vs = v :: r ∧ RV K hid own H H' e.1 e.2 v ∧ RVs K hid own H H' es r
def PostA (K : PySem.W.Frag) (hid : Addr → Prop) (own : Own) (H : Hp) (Wx : Str → Hp → Prop) (r : R (List Ev)) (Q : List V → Hp → Prop) : Prop :=
  match r with
  | .ok es => ∀ H' vs, Same H H' → (∀ b, ob hid own b → H' b ≠ none) → RVs K hid own H H' es vs → Q vs H'
  | .exc c => ∀ H', Same H H' → Wx c H'
  | .bad => False
def tE (K : PySem.W.Frag) (mg : Str → Option Value) (W : WX) (f : EF) : TE := fun σ H Q => ∃ hid own ρ, SR K hid own H ρ σ ∧ Post K hid own H (Wc mg W σ) (f ρ) Q
def tT (K : PySem.W.Frag) (mg : Str → Option Value) (W : WX) (f : TF) : TT := fun σ H Q => ∃ hid own ρ, SR K hid own H ρ σ ∧ PostT H (Wc mg W σ) (f ρ) Q
def tA (K : PySem.W.Frag) (mg : Str → Option Value) (W : WX) (f : AF) : TA := fun σ H Q => ∃ hid own ρ, SR K hid own H ρ σ ∧ PostA K hid own H (Wc mg W σ) (f ρ) Q
abbrev DE (X : Cx) (W : WX) (e : Expr) (f : EF) : Prop := PE X e (tE X.K X.mg W f)
abbrev DT (X : Cx) (W : WX) (e : Expr) (f : TF) : Prop := PT X e (tT X.K X.mg W f)
abbrev DW (X : Cx) (W : WX) (e : Expr) (f : TF) : Prop := PW X e (tT X.K X.mg W f)
abbrev DA (X : Cx) (W : WX) (e : List Expr) (f : AF) : Prop := PA X e (tA X.K X.mg W f)

section
variable {K : PySem.W.Frag} {hid : Addr → Prop} {own : Own} {H H1 H2 H' : Hp} {ρ : Ro} {σ : St} {Wx : Str → Hp → Prop}
theorem Post.mono {r : R Ev} {Q : VK} (s : Same H H1) (h : Post K hid own H Wx r Q) : Post K hid own H1 Wx r Q := by
  cases r with
  | ok e => exact fun H' v s' q => h H' v (s.trans s') (q.base s)
  | exc c => exact fun H' s' => h H' (s.trans s')
  | bad => exact h
theorem PostT.mono {r : R Bool} {Q : Bool → Hp → Prop} (s : Same H H1) (h : PostT H Wx r Q) : PostT H1 Wx r Q := by
  cases r with
  | ok e => exact fun H' s' => h H' (s.trans s')
  | exc c => exact fun H' s' => h H' (s.trans s')
  | bad => exact h
theorem RVs.base (s : Same H H1) : ∀ {es : List Ev} {vs : List V}, RVs K hid own H1 H' es vs → RVs K hid own H H' es vs
  | [], _, h => h
  | _ :: _, _, ⟨v, r, e, a, b⟩ => ⟨v, r, e, a.base s, RVs.base s b⟩
theorem PostA.mono {r : R (List Ev)} {Q : List V → Hp → Prop} (s : Same H H1) (h : PostA K hid own H Wx r Q) : PostA K hid own H1 Wx r Q := by
  cases r with
  | ok e => exact fun H' vs s' d q => h H' vs (s.trans s') d (q.base s)
  | exc c => exact fun H' s' => h H' (s.trans s')
  | bad => exact h
/-- one part's reading from the whole's -/
theorem Post.part {r : R Ev} {g : Ev → R Ev} {Q T : VK} (h : Post K hid own H Wx (r.bind g) Q)
    (k : ∀ e H1 v, Same H H1 → RV K hid own H H1 e.1 e.2 v → Post K hid own H1 Wx (g e) Q → T v H1) : Post K hid own H Wx r T := by
  cases r with
  | ok e => exact fun H1 v s q => k e H1 v s q (Post.mono s h)
  | exc c => exact h
  | bad => exact h
theorem PostT.part {r : R Bool} {g : Bool → R Bool} {Q T : Bool → Hp → Prop} (h : PostT H Wx (r.bind g) Q)
    (k : ∀ e H1, Same H H1 → PostT H1 Wx (g e) Q → T e H1) : PostT H Wx r T := by
  cases r with
  | ok e => exact fun H1 s => k e H1 s (PostT.mono s h)
  | exc c => exact h
  | bad => exact h
theorem PostT.partE {r : R Ev} {g : Ev → R Bool} {Q : Bool → Hp → Prop} {T : VK} (h : PostT H Wx (r.bind g) Q)
    (k : ∀ e H1 v, Same H H1 → RV K hid own H H1 e.1 e.2 v → PostT H1 Wx (g e) Q → T v H1) : Post K hid own H Wx r T := by
  cases r with
  | ok e => exact fun H1 v s q => k e H1 v s q (PostT.mono s h)
  | exc c => exact h
  | bad => exact h
theorem Post.partT {r : R Bool} {g : Bool → R Ev} {Q : VK} {T : Bool → Hp → Prop} (h : Post K hid own H Wx (r.bind g) Q)
    (k : ∀ e H1, Same H H1 → Post K hid own H1 Wx (g e) Q → T e H1) : PostT H Wx r T := by
  cases r with
  | ok e => exact fun H1 s => k e H1 s (Post.mono s h)
  | exc c => exact h
  | bad => exact h
end
end PL
set_option Elab.async false
set_option linter.all false
set_option maxRecDepth 100000
set_option maxHeartbeats 4000000
/-! PL2: the rules of expressions over pure data. -/
namespace PL
open PySem PySem.Spec L2

section
variable {K : PySem.W.Frag} {hid : Addr → Prop} {own : Own} {H H1 H2 H' : Hp} {ρ : Ro} {σ : L2.St} {Wx : Str → Hp → Prop} {Q : VK}
theorem Post.now {d : D} {v : V} (h : Post K hid own H Wx (.ok (.cl, d)) Q) (r : Rp K (hd H (ob hid own)) d v) : Q v H := h H v (Same.refl H) r
theorem Post.nowT {d : D} {v : V} (h : Post K hid own H Wx (.ok (.pk, d)) Q) (r : RT K hid own H d v) : Q v H := h H v (Same.refl H) r
theorem sameUpd {H : Hp} {p : Addr} {o : HO} (h : H p = none) : Same H (upd H p o) := fun b x e => by
  rw [upd_ne (ne_of_none e h)]; exact e
theorem Post.newL {p : Addr} {ds : List D} {vs : List V} (h : Post K hid own H Wx (.ok (.fr, .lst ds)) Q) (np : H p = none) (nb : ¬ ob hid own p) (r : RpL K (hd H (ob hid own)) ds vs) : Q (.ref p) (upd H p (.lst vs)) := by
  refine h _ _ (sameUpd np) ⟨p, rfl, np, nb, vs, upd_same, RpL.mono (hd_mono fun b o e n => ?_) _ _ r⟩
  have hb : b ≠ p := ne_of_none e np
  exact ⟨by rw [upd_ne hb]; exact e, fun z => z.elim n hb⟩
theorem Post.newT {p : Addr} {ds : List D} {vs : List V} (h : Post K hid own H Wx (.ok (.cl, .tup ds)) Q) (np : H p = none) (nb : ¬ ob hid own p) (r : RpL K (hd H (ob hid own)) ds vs) : Q (.ref p) (upd H p (.tup vs)) := by
  refine h _ _ (sameUpd np) ⟨p, vs, rfl, .inl (.inl (hd_some.mpr ⟨nb, upd_same⟩)), RpL.mono (hd_same (sameUpd np)) _ _ r⟩
end

/-! ### names and constants -/
def eVar (i : Nat) : EF := fun ρ => match ρ[i]? with
  | some (some (true, d)) => .ok (.pk, d)
  | some (some (false, d)) => .ok (.cl, d)
  | _ => .bad
def eC (d : D) : EF := fun _ => .ok (.cl, d)
section
variable {X : Cx} {W : WX}
theorem own_rt {K : PySem.W.Frag} {hid : Addr → Prop} {own : Own} {H : Hp} {ρ : Ro} {σ : L2.St} (hS : SR K hid own H ρ σ) {i : Nat} {d : D} (e : ρ[i]? = some (some (true, d))) : ∃ v, σ[i]? = some (some v) ∧ RT K hid own H d v := by
  obtain ⟨a, e1, e2, e3⟩ := hS.ow i d e
  refine ⟨_, e2, ?_⟩
  cases d with
  | lst ds =>
    obtain ⟨vs, e4, e5⟩ := e3
    exact ⟨a, vs, rfl, hd_some.mpr ⟨(hS.oh i a e1).1, e4⟩, e5⟩
  | _ => exact e3.elim
theorem de_var (i : Nat) {x : Str} {pos : Pos} (h : PE X (.Name x pos) (tVar i)) : DE X W (.Name x pos) (eVar i) := by
  refine imp_pe h fun σ H Q ⟨hid, own, ρ, hS, q⟩ => ?_
  unfold eVar at q
  split at q
  · rename_i d e
    obtain ⟨v, e1, e2⟩ := own_rt hS e
    exact ⟨v, e1, q.nowT e2⟩
  · rename_i d e
    obtain ⟨v, e1, e2⟩ := hS.val i d e
    exact ⟨v, e1, q.now e2⟩
  · exact q.elim
theorem de_c {e : Expr} {v : V} (d : D) (h : PE X e (tC v)) (r : ∀ H : Hp, Rp X.K H d v) : DE X W e (eC d) :=
  imp_pe h fun σ H Q ⟨hid, own, ρ, hS, q⟩ => q.now (r _)
theorem de_int {i : Int} {j pos} : DE X W (.Constant (.int i) j pos) (eC (.int i)) := de_c _ pe_int fun _ => rfl
theorem de_bl {i : Bool} {j pos} : DE X W (.Constant (.bool i) j pos) (eC (.bl i)) := de_c _ pe_bl fun _ => rfl
theorem de_non {j pos} : DE X W (.Constant .none j pos) (eC .non) := de_c _ pe_non fun _ => rfl
theorem de_str {x : Str} (a : List Nat) {j pos} (h : x = S a := by decide +kernel) : DE X W (.Constant (.str x) j pos) (eC (.str a)) := de_c _ pe_str fun _ => by rw [h]; rfl
theorem de_gint {x : Str} {i : Int} {t : Tok} {pos : Pos} (hg : Gl X x) (hm : X.mg x = some (.int i t)) (hd : (x == ("__debug__" : Str)) = false := by decide) : DE X W (.Name x pos) (eC (.int i)) := de_c _ (pe_glob (v := .int i) hg hm ⟨t, rfl⟩ hd) fun _ => rfl
theorem de_gstr {x y : Str} {t : Tok} (a : List Nat) {pos : Pos} (hg : Gl X x) (hm : X.mg x = some (.str y t)) (h : y = S a := by decide +kernel) (hd : (x == ("__debug__" : Str)) = false := by decide) : DE X W (.Name x pos) (eC (.str a)) := de_c _ (pe_glob (v := .str y) hg hm ⟨t, rfl⟩ hd) fun _ => by rw [h]; rfl
end

/-! ### operators -/
def op2 (g : D → D → R Ev) (fa fb : EF) : EF := fun ρ => (fa ρ).bind fun x => (fb ρ).bind fun y => g x.2 y.2
def op1 (g : D → R Ev) (fa : EF) : EF := fun ρ => (fa ρ).bind fun x => g x.2
def OpG (K : PySem.W.Frag) (r : R2) (g : D → D → R Ev) : Prop := ∀ {hid own H Wx x y dx dy Q}, (∀ b, ob hid own b → H b ≠ none) → RT K hid own H dx x → RT K hid own H dy y → Post K hid own H Wx (g dx dy) Q → r x y H Q
section
variable {X : Cx} {W : WX} {a b : Expr} {fa fb : EF} {r : R2} {g : D → D → R Ev} {pos : Pos}
theorem two (hg : OpG X.K r g) : ∀ σ H Q, tE X.K X.mg W (op2 g fa fb) σ H Q → tOp r (tE X.K X.mg W fa) (tE X.K X.mg W fb) σ H Q := fun σ H Q ⟨hid, own, ρ, hS, h⟩ =>
  ⟨hid, own, ρ, hS, Post.part h fun e1 H1 x s1 r1 h1 => ⟨hid, own, ρ, hS.mono s1, Post.part h1 fun e2 H2 y s2 r2 h2 => hg ((hS.mono s1).mono s2).dom (r1.rt.mono s2) r2.rt h2⟩⟩
theorem de_op {op : Operator} (ho : OpR X (binaryOp op) r) (hg : OpG X.K r g) (ha : DE X W a fa) (hb : DE X W b fb) : DE X W (.BinOp a op b pos) (op2 g fa fb) := imp_pe (pe_op ho ha hb) (two hg)
theorem de_cmp {op : CmpOp} (ho : OpR X (compareOp op) r) (hg : OpG X.K r g) (ha : DE X W a fa) (hb : DE X W b fb) (hm : behindInMarks op b = false) : DE X W (.Compare a [op] [b] pos) (op2 g fa fb) := imp_pe (pe_cmpR ho ha hb hm) (two hg)
/-- a comparison as a test -/
def asB : Ev → R Bool
  | (_, .bl b) => .ok b
  | _ => .bad
def t2 (g : D → D → R Ev) (fa fb : EF) : TF := fun ρ => (op2 g fa fb ρ).bind asB
theorem bl_of {K : PySem.W.Frag} {hid : Addr → Prop} {own : Own} {H H' : Hp} {k : Kd} {b : Bool} {v : V} (h : RV K hid own H H' k (.bl b) v) : v = .bl b := h.rt
theorem test_of {f : EF} : ∀ σ H Q, tT X.K X.mg W (fun ρ => (f ρ).bind asB) σ H Q → tTest (tE X.K X.mg W f) σ H Q := fun σ H Q ⟨hid, own, ρ, hS, h⟩ =>
  ⟨hid, own, ρ, hS, PostT.partE h fun e H1 v s1 r1 h1 => by
    obtain ⟨k, d⟩ := e
    cases d with
    | bl b => exact ⟨b, bl_of r1, h1 H1 (Same.refl _)⟩
    | _ => exact h1.elim⟩
theorem tTest_mono {t t' : TE} (k : ∀ σ H Q, t σ H Q → t' σ H Q) : ∀ σ H Q, tTest t σ H Q → tTest t' σ H Q := fun σ H Q h => k σ H _ h
theorem dt_cmp {op : CmpOp} (ho : OpR X (compareOp op) r) (hg : OpG X.K r g) (ha : DE X W a fa) (hb : DE X W b fb) (hm : behindInMarks op b = false) : DT X W (.Compare a [op] [b] pos) (t2 g fa fb) :=
  imp_pt (pt_cmpR ho ha hb hm) fun σ H Q h => tTest_mono (two hg) σ H Q (test_of σ H Q h)

theorem OpG.or {K : PySem.W.Frag} {r r' : R2} {g g' : D → D → R Ev} (p : D → D → Bool) (h : OpG K r g) (h' : OpG K r' g') : OpG K (fun x y H Q => r x y H Q ∨ r' x y H Q) (fun x y => if p x y = true then g x y else g' x y) := by
  intro hid own H Wx x y dx dy Q hb rx ry q
  have q : Post K hid own H Wx (if p dx dy = true then g dx dy else g' dx dy) Q := q
  by_cases c : p dx dy = true
  · rw [if_pos c] at q; exact .inl (h hb rx ry q)
  · rw [if_neg c] at q; exact .inr (h' hb rx ry q)

/-! #### whole numbers -/
def gI (c : Int → Int → Bool) (f : Int → Int → Int) : D → D → R Ev
  | .int i, .int j => if c i j = true then .ok (.cl, .int (f i j)) else .bad
  | _, _ => .bad
theorem opg_I {K : PySem.W.Frag} {C : Int → Int → Prop} {c : Int → Int → Bool} {f : Int → Int → Int} (hc : ∀ i j, c i j = true → C i j) : OpG K (rI C fun i j => .int (f i j)) (gI c f) := by
  intro hid own H Wx x y dx dy Q hb rx ry q
  unfold gI at q
  split at q
  · rename_i i j
    split at q
    · rename_i h
      exact ⟨i, j, rx, ry, hc i j h, q.now rfl⟩
    · exact q.elim
  · exact q.elim
def gI0 (f : Int → Int → Int) : D → D → R Ev
  | .int i, .int j => .ok (.cl, .int (f i j))
  | _, _ => .bad
theorem opg_I0 {K : PySem.W.Frag} {f : Int → Int → Int} : OpG K (rI0 fun i j => .int (f i j)) (gI0 f) := by
  intro hid own H Wx x y dx dy Q hb rx ry q
  unfold gI0 at q
  split at q
  · exact ⟨_, _, rx, ry, q.now rfl⟩
  · exact q.elim
def cMul (i j : Int) : Bool := decide (-(2 ^ 64) < i ∧ i < 2 ^ 64) || decide (-(2 ^ 64) < j ∧ j < 2 ^ 64)
def gSub := gI0 fun i j => i - j
def gMulI := gI cMul fun i j => i * j
def gMod := gI (fun _ j => decide (0 < j)) fun i j => i % j
def gFdiv := gI (fun _ j => decide (0 < j ∧ j < 1073741824)) fun i j => i / j
def gPow := gI (fun i j => decide (0 ≤ j ∧ j ≤ 1000000 ∧ i.natAbs < 2 ^ 64)) fun i j => i ^ j.toNat
theorem de_sub (ha : DE X W a fa) (hb : DE X W b fb) : DE X W (.BinOp a .Sub b pos) (op2 gSub fa fb) := de_op op_sub opg_I0 ha hb
theorem de_mulI (ha : DE X W a fa) (hb : DE X W b fb) : DE X W (.BinOp a .Mult b pos) (op2 gMulI fa fb) := de_op op_mul (opg_I fun i j h => by
  unfold cMul at h
  rw [Bool.or_eq_true, decide_eq_true_eq, decide_eq_true_eq] at h
  exact h) ha hb
theorem de_mod (ha : DE X W a fa) (hb : DE X W b fb) : DE X W (.BinOp a .Mod b pos) (op2 gMod fa fb) := de_op op_mod (opg_I fun i j h => of_decide_eq_true h) ha hb
theorem de_fdiv (ha : DE X W a fa) (hb : DE X W b fb) : DE X W (.BinOp a .FloorDiv b pos) (op2 gFdiv fa fb) := de_op op_fdiv (opg_I fun i j h => of_decide_eq_true h) ha hb
theorem de_pow (ha : DE X W a fa) (hb : DE X W b fb) : DE X W (.BinOp a .Pow b pos) (op2 gPow fa fb) := de_op op_pow (opg_I fun i j h => of_decide_eq_true h) ha hb

/-! #### + -/
def gAddS : D → D → R Ev
  | .str a, .str b => if a.length + b.length ≤ 16777216 then .ok (.cl, .str (a ++ b)) else .bad
  | _, _ => .bad
theorem opg_addS {K : PySem.W.Frag} : OpG K (fun x y H Q => ∃ i j, x = .str i ∧ y = .str j ∧ i.length + j.length ≤ sizeLine ∧ Q (.str (i ++ j)) H) gAddS := by
  intro hid own H Wx x y dx dy Q hb rx ry q
  unfold gAddS at q
  split at q
  · split at q
    · rename_i h
      refine ⟨_, _, rx, ry, by rw [S_len, S_len, sizeLine_eq]; exact h, ?_⟩
      rw [S_app]
      exact q.now rfl
    · exact q.elim
  · exact q.elim
def gAddL : D → D → R Ev
  | .lst a, .lst b => if a.length + b.length ≤ 16777216 then .ok (.fr, .lst (a ++ b)) else .bad
  | _, _ => .bad
theorem no_dom {P : Addr → Prop} {H : Hp} (h : ∀ b, P b → H b ≠ none) {p : Addr} (n : H p = none) : ¬ P p := fun z => h p z n
theorem opg_addL {K : PySem.W.Frag} : OpG K rCat gAddL := by
  intro hid own H Wx x y dx dy Q hb rx ry q
  unfold gAddL at q
  split at q
  · rename_i da db
    split at q
    · rename_i h
      obtain ⟨p1, vs, e1, e2, e3⟩ := rx
      obtain ⟨p2, ws, f1, f2, f3⟩ := ry
      refine ⟨p1, p2, vs, ws, e1, f1, (hd_some.mp e2).2, (hd_some.mp f2).2, by rw [e3.len, f3.len, sizeLine_eq]; exact h, fun p np => q.newL np (no_dom hb np) (e3.app f3)⟩
    · exact q.elim
  · exact q.elim
def isI : D → Bool
  | .int _ => true
  | _ => false
def isS : D → Bool
  | .str _ => true
  | _ => false
def gAdd : D → D → R Ev := fun x y => if isI x = true then gI0 (fun i j => i + j) x y else if isS x = true then gAddS x y else gAddL x y
theorem de_add (ha : DE X W a fa) (hb : DE X W b fb) : DE X W (.BinOp a .Add b pos) (op2 gAdd fa fb) :=
  de_op (op_add.or (op_add_str.or op_cat)) (OpG.or (fun x _ => isI x) opg_I0 (OpG.or (fun x _ => isS x) opg_addS opg_addL)) ha hb
@[simp] theorem gAdd_int (i j : Int) : gAdd (.int i) (.int j) = .ok (.cl, .int (i + j)) := rfl
theorem gAdd_str (a b : List Nat) : gAdd (.str a) (.str b) = if a.length + b.length ≤ 16777216 then .ok (.cl, .str (a ++ b)) else .bad := rfl
theorem gAdd_lst (a b : List D) : gAdd (.lst a) (.lst b) = if a.length + b.length ≤ 16777216 then .ok (.fr, .lst (a ++ b)) else .bad := rfl

/-! #### comparisons of whole numbers and texts -/
def gC (f : Int → Int → Bool) (g : List Nat → List Nat → Bool) : D → D → R Ev
  | .int i, .int j => .ok (.cl, .bl (f i j))
  | .str a, .str b => .ok (.cl, .bl (g a b))
  | _, _ => .bad
theorem opg_C {K : PySem.W.Frag} {f : Int → Int → Bool} {g : List Nat → List Nat → Bool} : OpG K (fun x y H Q => (rI0 fun i j => .bl (f i j)) x y H Q ∨ (∃ i j, x = .str i ∧ y = .str j ∧ Q (.bl (g i.cps.toList j.cps.toList)) H)) (gC f g) := by
  intro hid own H Wx x y dx dy Q hb rx ry q
  unfold gC at q
  split at q
  · exact .inl ⟨_, _, rx, ry, q.now rfl⟩
  · refine .inr ⟨_, _, rx, ry, ?_⟩
    rw [S_cps, S_cps]
    exact q.now rfl
  · exact q.elim
def gLt := gC (fun i j => decide (i < j)) fun a b => decide (a < b)
def gLe := gC (fun i j => decide (i ≤ j)) fun a b => !decide (b < a)
def gGt := gC (fun i j => decide (j < i)) fun a b => decide (b < a)
def gGe := gC (fun i j => decide (j ≤ i)) fun a b => !decide (a < b)
end
section
variable {X : Cx} {W : WX} {a b : Expr} {fa fb : EF} {pos : Pos}
theorem op_ltA : OpR X (compareOp .Lt) (fun x y H Q => (rI0 fun i j => .bl (decide (i < j))) x y H Q ∨ (∃ i j, x = .str i ∧ y = .str j ∧ Q (.bl (decide (i.cps.toList < j.cps.toList))) H)) := op_lt.or op_lt_str
theorem op_leA : OpR X (compareOp .LtE) (fun x y H Q => (rI0 fun i j => .bl (decide (i ≤ j))) x y H Q ∨ (∃ i j, x = .str i ∧ y = .str j ∧ Q (.bl (!decide (j.cps.toList < i.cps.toList))) H)) := op_le.or op_le_str
theorem op_gtA : OpR X (compareOp .Gt) (fun x y H Q => (rI0 fun i j => .bl (decide (j < i))) x y H Q ∨ (∃ i j, x = .str i ∧ y = .str j ∧ Q (.bl (decide (j.cps.toList < i.cps.toList))) H)) := op_gt.or op_gt_str
theorem op_geA : OpR X (compareOp .GtE) (fun x y H Q => (rI0 fun i j => .bl (decide (j ≤ i))) x y H Q ∨ (∃ i j, x = .str i ∧ y = .str j ∧ Q (.bl (!decide (i.cps.toList < j.cps.toList))) H)) := op_ge.or op_ge_str
theorem de_lt (ha : DE X W a fa) (hb : DE X W b fb) : DE X W (.Compare a [.Lt] [b] pos) (op2 gLt fa fb) := de_cmp op_ltA opg_C ha hb (nobehind _ (by decide) (by decide))
theorem de_le (ha : DE X W a fa) (hb : DE X W b fb) : DE X W (.Compare a [.LtE] [b] pos) (op2 gLe fa fb) := de_cmp op_leA opg_C ha hb (nobehind _ (by decide) (by decide))
theorem de_gt (ha : DE X W a fa) (hb : DE X W b fb) : DE X W (.Compare a [.Gt] [b] pos) (op2 gGt fa fb) := de_cmp op_gtA opg_C ha hb (nobehind _ (by decide) (by decide))
theorem de_ge (ha : DE X W a fa) (hb : DE X W b fb) : DE X W (.Compare a [.GtE] [b] pos) (op2 gGe fa fb) := de_cmp op_geA opg_C ha hb (nobehind _ (by decide) (by decide))
theorem dt_lt (ha : DE X W a fa) (hb : DE X W b fb) : DT X W (.Compare a [.Lt] [b] pos) (t2 gLt fa fb) := dt_cmp op_ltA opg_C ha hb (nobehind _ (by decide) (by decide))
theorem dt_le (ha : DE X W a fa) (hb : DE X W b fb) : DT X W (.Compare a [.LtE] [b] pos) (t2 gLe fa fb) := dt_cmp op_leA opg_C ha hb (nobehind _ (by decide) (by decide))
theorem dt_gt (ha : DE X W a fa) (hb : DE X W b fb) : DT X W (.Compare a [.Gt] [b] pos) (t2 gGt fa fb) := dt_cmp op_gtA opg_C ha hb (nobehind _ (by decide) (by decide))
theorem dt_ge (ha : DE X W a fa) (hb : DE X W b fb) : DT X W (.Compare a [.GtE] [b] pos) (t2 gGe fa fb) := dt_cmp op_geA opg_C ha hb (nobehind _ (by decide) (by decide))
/-- a <= b <= c -/
def chn (g g' : D → D → R Ev) (fa fb fc : EF) : EF := fun ρ => (fa ρ).bind fun x => (fb ρ).bind fun y => (g x.2 y.2).bind fun z => match z.2 with
  | .bl true => (fc ρ).bind fun w => g' y.2 w.2
  | .bl false => .ok (.cl, .bl false)
  | _ => .bad
theorem de_chain {op op' : CmpOp} {r r' : R2} {g g' : D → D → R Ev} {c : Expr} {fc : EF} (ho : OpR X (compareOp op) r) (hg : OpG X.K r g) (ho' : OpR X (compareOp op') r') (hg' : OpG X.K r' g')
    (ha : DE X W a fa) (hb : DE X W b fb) (hc : DE X W c fc) (hm : lastMarks [op, op'] [b, c] = false := by with_unfolding_all rfl) : DE X W (.Compare a [op, op'] [b, c] pos) (chn g g' fa fb fc) := by
  refine imp_pe (pe_chain ho ho' ha hb hc hm) fun σ H Q ⟨hid, own, ρ, hS, h⟩ => ?_
  refine ⟨hid, own, ρ, hS, Post.part h fun e1 H1 x s1 r1 h1 => ⟨hid, own, ρ, hS.mono s1, Post.part h1 fun e2 H2 y s2 r2 h2 => ?_⟩⟩
  have S2 := (hS.mono s1).mono s2
  refine hg (Wx := Wc X.mg W σ) S2.dom (r1.rt.mono s2) r2.rt (Post.part h2 fun e3 H3 z s3 r3 h3 => ?_)
  obtain ⟨k3, d3⟩ := e3
  cases d3 with
  | bl t =>
    refine ⟨t, bl_of r3, ?_⟩
    cases t with
    | true => exact iteT ⟨hid, own, ρ, S2.mono s3, Post.part h3 fun e4 H4 w s4 r4 h4 => hg' ((S2.mono s3).mono s4).dom ((r2.rt.mono s3).mono s4) r4.rt h4⟩
    | false => exact iteF (h3.now rfl)
  | _ => exact h3.elim
theorem de_lele {c : Expr} {fc : EF} (ha : DE X W a fa) (hb : DE X W b fb) (hc : DE X W c fc) (hm : lastMarks [.LtE, .LtE] [b, c] = false := by with_unfolding_all rfl) : DE X W (.Compare a [.LtE, .LtE] [b, c] pos) (chn gLe gLe fa fb fc) :=
  de_chain op_leA opg_C op_leA opg_C ha hb hc hm
end

/-! ### == of data -/
mutual
def toP : D → Option PyData
  | .non => some .none
  | .bl b => some (.bool b)
  | .int i => some (.int i)
  | .str x => some (.str (S x))
  | .tup xs => (toPs xs).map .tuple
  | .lst xs => (toPs xs).map .list
  | .rol _ => none
def toPs : List D → Option (List PyData)
  | [] => some []
  | x :: xs => (toP x).bind fun p => (toPs xs).map fun r => p :: r
end
/-- the equality of data -/
def peq (x y : D) : Bool := match toP x, toP y with
  | some p, some q => PyData.eqv p q
  | _, _ => false
def shp (x : D) : Bool := match toP x with
  | some p => SeqAt.shaped p
  | none => false
mutual
theorem Rp.dp {K : PySem.W.Frag} {H : Hp} : ∀ (d : D) (v : V) (p : PyData), Rp K H d v → toP d = some p → Dp K H v p
  | .non, _, _, h, e => by cases e; cases (show _ = _ from h); exact .non
  | .bl b, _, _, h, e => by cases e; cases (show _ = _ from h); exact .bl b
  | .int i, _, _, h, e => by cases e; cases (show _ = _ from h); exact .int i
  | .str x, _, _, h, e => by cases e; cases (show _ = _ from h); exact .str _
  | .tup xs, _, p, ⟨a, vs, h1, h2, h3⟩, e => by
    unfold toP at e
    cases q : toPs xs with
    | none => rw [q] at e; cases e
    | some ps =>
      rw [q] at e; cases e; subst h1
      exact .tup h2 (RpL.dp xs vs ps h3 q)
  | .lst xs, _, p, ⟨a, vs, h1, h2, h3⟩, e => by
    unfold toP at e
    cases q : toPs xs with
    | none => rw [q] at e; cases e
    | some ps =>
      rw [q] at e; cases e; subst h1
      exact .lst (SqL.of h2) (RpL.dp xs vs ps h3 q)
  | .rol _, _, _, _, e => by cases e
theorem RpL.dp {K : PySem.W.Frag} {H : Hp} : ∀ (ds : List D) (vs : List V) (ps : List PyData), RpL K H ds vs → toPs ds = some ps → DpAll K H vs ps
  | [], _, _, h, e => by cases e; cases (show _ = _ from h); exact .nil
  | d :: ds, _, ps, ⟨v, r, h1, h2, h3⟩, e => by
    unfold toPs at e
    cases q : toP d with
    | none => rw [q] at e; cases e
    | some p =>
      cases q2 : toPs ds with
      | none => rw [q, q2] at e; cases e
      | some qs =>
        rw [q, q2] at e; cases e; subst h1
        exact .cons (Rp.dp d v p h2 q) (RpL.dp ds r qs h3 q2)
end
mutual
theorem Dp.mono {K : PySem.W.Frag} {H H' : Hp} (s : Same H H') : ∀ {v : V} {p : PyData}, Dp K H v p → Dp K H' v p
  | _, _, .non => .non
  | _, _, .bl b => .bl b
  | _, _, .int b => .int b
  | _, _, .str b => .str b
  | _, _, .lst a b => .lst (s.seq a) (DpAll.mono s b)
  | _, _, .tup a b => .tup (same_seqT s a) (DpAll.mono s b)
theorem DpAll.mono {K : PySem.W.Frag} {H H' : Hp} (s : Same H H') : ∀ {v : List V} {p : List PyData}, DpAll K H v p → DpAll K H' v p
  | _, _, .nil => .nil
  | _, _, .cons a b => .cons (Dp.mono s a) (DpAll.mono s b)
end
theorem RT.dp {K : PySem.W.Frag} {hid : Addr → Prop} {own : Own} {H : Hp} {d : D} {v : V} {p : PyData} (h : RT K hid own H d v) (e : toP d = some p) : Dp K H v p := Dp.mono hd_le (Rp.dp d v p h.rp e)
def scl : D → D → Bool
  | .non, .non => true | .non, .int _ => true | .int _, .non => true | .non, .bl _ => true | .bl _, .non => true | .non, .str _ => true | .str _, .non => true
  | .int _, .int _ => true | .bl _, .bl _ => true | .str _, .str _ => true
  | .int _, .str _ => true | .str _, .int _ => true | .bl _, .str _ => true | .str _, .bl _ => true
  | _, _ => false
def seq' : D → D → Bool
  | .non, .non => true
  | .int a, .int b => a == b
  | .bl a, .bl b => a == b
  | .str a, .str b => a == b
  | _, _ => false
def gEqS (neg : Bool) : D → D → R Ev := fun x y => if scl x y = true then .ok (.cl, .bl (if neg then !(seq' x y) else seq' x y)) else .bad
theorem S_beq (a b : List Nat) : decide (V.str (S a) = V.str (S b)) = (a == b) := by
  rw [Bool.eq_iff_iff, decide_eq_true_eq, beq_iff_eq]
  exact ⟨fun h => S_inj (V.str.inj h), fun h => by rw [h]⟩
theorem seq_dec : ∀ {dx dy : D} {x y : V} {K : PySem.W.Frag} {hid : Addr → Prop} {own : Own} {H : Hp}, scl dx dy = true → RT K hid own H dx x → RT K hid own H dy y → scal x y = true ∧ decide (x = y) = seq' dx dy := by
  intro dx dy x y K hid own H h rx ry
  cases dx <;> cases dy <;> first
    | exact absurd (show false = true from h) Bool.false_ne_true
    | (cases (show _ = _ from rx)
       cases (show _ = _ from ry)
       refine ⟨rfl, ?_⟩
       first
       | exact dec_int
       | exact dec_bl
       | exact S_beq _ _
       | exact decide_eq_true rfl
       | exact decide_eq_false (fun z => nomatch z))
theorem opg_eqS {K : PySem.W.Frag} : OpG K rEq (gEqS false) := by
  intro hid own H Wx x y dx dy Q hb rx ry q
  unfold gEqS at q
  split at q
  · rename_i h
    obtain ⟨h1, h2⟩ := seq_dec h rx ry
    exact ⟨h1, by rw [h2]; exact q.now rfl⟩
  · exact q.elim
theorem opg_neS {K : PySem.W.Frag} : OpG K rNe (gEqS true) := by
  intro hid own H Wx x y dx dy Q hb rx ry q
  unfold gEqS at q
  split at q
  · rename_i h
    obtain ⟨h1, h2⟩ := seq_dec h rx ry
    exact ⟨h1, by rw [h2]; exact q.now rfl⟩
  · exact q.elim
def gEqD (neg : Bool) : D → D → R Ev := fun x y => if (shp x && shp y) = true then .ok (.cl, .bl (if neg then !(peq x y) else peq x y)) else .bad
theorem opg_eqD {K : PySem.W.Frag} : OpG K (rEqD K) (gEqD false) := by
  intro hid own H Wx x y dx dy Q hb rx ry q
  unfold gEqD at q
  split at q
  · rename_i h
    rw [Bool.and_eq_true] at h
    obtain ⟨h1, h2⟩ := h
    unfold shp at h1 h2
    cases ex : toP dx with
    | none => rw [ex] at h1; exact absurd h1 Bool.false_ne_true
    | some p =>
      cases ey : toP dy with
      | none => rw [ey] at h2; exact absurd h2 Bool.false_ne_true
      | some p' =>
        rw [ex] at h1
        rw [ey] at h2
        refine ⟨p, p', rx.dp ex, ry.dp ey, h1, h2, q.now ?_⟩
        show _ = V.bl (peq dx dy)
        unfold peq
        rw [ex, ey]
  · exact q.elim
theorem opg_neD {K : PySem.W.Frag} : OpG K (rNeD K) (gEqD true) := by
  intro hid own H Wx x y dx dy Q hb rx ry q
  unfold gEqD at q
  split at q
  · rename_i h
    rw [Bool.and_eq_true] at h
    obtain ⟨h1, h2⟩ := h
    unfold shp at h1 h2
    cases ex : toP dx with
    | none => rw [ex] at h1; exact absurd h1 Bool.false_ne_true
    | some p =>
      cases ey : toP dy with
      | none => rw [ey] at h2; exact absurd h2 Bool.false_ne_true
      | some p' =>
        rw [ex] at h1
        rw [ey] at h2
        refine ⟨p, p', rx.dp ex, ry.dp ey, h1, h2, q.now ?_⟩
        show _ = V.bl (!peq dx dy)
        unfold peq
        rw [ex, ey]
  · exact q.elim
def gEq : D → D → R Ev := fun x y => if scl x y = true then gEqS false x y else gEqD false x y
def gNe : D → D → R Ev := fun x y => if scl x y = true then gEqS true x y else gEqD true x y
section
variable {X : Cx} {W : WX} {a b : Expr} {fa fb : EF} {pos : Pos}
theorem de_eq (hu : X.A.units + 64 < cLine) (ha : DE X W a fa) (hb : DE X W b fb) : DE X W (.Compare a [.Eq] [b] pos) (op2 gEq fa fb) := de_cmp (op_eq.or (op_eqD hu)) (OpG.or scl opg_eqS opg_eqD) ha hb (nobehind _ (by decide) (by decide))
theorem dt_eq (hu : X.A.units + 64 < cLine) (ha : DE X W a fa) (hb : DE X W b fb) : DT X W (.Compare a [.Eq] [b] pos) (t2 gEq fa fb) := dt_cmp (op_eq.or (op_eqD hu)) (OpG.or scl opg_eqS opg_eqD) ha hb (nobehind _ (by decide) (by decide))
theorem de_ne (hu : X.A.units + 64 < cLine) (ha : DE X W a fa) (hb : DE X W b fb) : DE X W (.Compare a [.NotEq] [b] pos) (op2 gNe fa fb) := de_cmp (op_ne.or (op_neD hu)) (OpG.or scl opg_neS opg_neD) ha hb (nobehind _ (by decide) (by decide))
theorem dt_ne (hu : X.A.units + 64 < cLine) (ha : DE X W a fa) (hb : DE X W b fb) : DT X W (.Compare a [.NotEq] [b] pos) (t2 gNe fa fb) := dt_cmp (op_ne.or (op_neD hu)) (OpG.or scl opg_neS opg_neD) ha hb (nobehind _ (by decide) (by decide))
end
end PL
set_option Elab.async false
set_option linter.all false
set_option maxRecDepth 100000
set_option maxHeartbeats 4000000
/-! PL3: tests, choices, built-in calls, methods of texts, subscripts, displays, calls of defs, comprehensions. -/
namespace PL
open PySem PySem.Spec L2

/-! ### truth, tests -/
def gTru : D → R Bool
  | .non => .ok false
  | .bl b => .ok b
  | .int i => .ok (i != 0)
  | .str x => if x.length ≤ 16777216 then .ok (!x.isEmpty) else .bad
  | .tup xs => .ok (!xs.isEmpty)
  | .lst xs => .ok (!xs.isEmpty)
  | .rol xs => .ok (!xs.isEmpty)
theorem gTru_cases : ∀ d : D, (∃ k, gTru d = .ok k) ∨ gTru d = .bad
  | .non => .inl ⟨_, rfl⟩
  | .bl _ => .inl ⟨_, rfl⟩
  | .int _ => .inl ⟨_, rfl⟩
  | .tup _ => .inl ⟨_, rfl⟩
  | .lst _ => .inl ⟨_, rfl⟩
  | .rol _ => .inl ⟨_, rfl⟩
  | .str x => by
    by_cases h : x.length ≤ 16777216
    · exact .inl ⟨!x.isEmpty, if_pos h⟩
    · exact .inr (if_neg h)
def tVal (fa : EF) : TF := fun ρ => (fa ρ).bind fun e => gTru e.2
def tNotF (fa : TF) : TF := fun ρ => (fa ρ).bind fun b => .ok (!b)
def tAndF (fa fb : TF) : TF := fun ρ => (fa ρ).bind fun b => if b = true then fb ρ else .ok false
def tOrF (fa fb : TF) : TF := fun ρ => (fa ρ).bind fun b => if b = true then .ok true else fb ρ
theorem isEmpty_len {α β : Type} {xs : List α} {ys : List β} (h : xs.length = ys.length) : xs.isEmpty = ys.isEmpty := by
  cases xs <;> cases ys <;> first | rfl | cases h
theorem tru_of {K : PySem.W.Frag} {hid : Addr → Prop} {own : Own} {H : Hp} : ∀ {d : D} {v : V} {k : Bool}, RT K hid own H d v → gTru d = .ok k → TruV K v H k
  | .non, _, _, h, e => by cases e; cases (show _ = _ from h); exact rfl
  | .bl b, _, _, h, e => by cases e; cases (show _ = _ from h); exact rfl
  | .int b, _, _, h, e => by cases e; cases (show _ = _ from h); exact rfl
  | .str x, _, k, h, e => by
    have e : (if x.length ≤ 16777216 then R.ok (!x.isEmpty) else R.bad) = .ok k := e
    split at e
    · rename_i hz
      cases e
      cases (show _ = _ from h)
      refine ⟨by rw [S_len, sizeLine_eq]; exact hz, ?_⟩
      rw [S_len]
      cases x with
      | nil => rfl
      | cons c r =>
        have : ((List.length (c :: r) : Nat) : Int) ≠ 0 := by rw [List.length_cons]; omega
        show true = _
        rw [eq_comm, bne_iff_ne]
        exact this
    · cases e
  | .tup xs, _, _, ⟨a, vs, h1, h2, h3⟩, e => by
    cases e; subst h1
    exact .inr (.inl ⟨vs, same_seqT hd_le h2, by rw [isEmpty_len h3.len]⟩)
  | .lst xs, _, _, ⟨a, vs, h1, h2, h3⟩, e => by
    cases e; subst h1
    exact .inl ⟨vs, SqL.of (hd_le _ _ h2), by rw [isEmpty_len h3.len]⟩
  | .rol xs, _, _, ⟨a, vs, h1, h2, h3⟩, e => by
    cases e; subst h1
    exact .inl ⟨vs, hd_le.seq h2, by rw [isEmpty_len h3.len]⟩
section
variable {X : Cx} {W : WX} {a b c : Expr} {fa fb fc : EF} {ta tb tc : TF} {rest : List Expr} {pos : Pos}
theorem dt_truth (ha : DE X W a fa) (he : ∀ whole, isTrue a X.env whole = (do let v ← whole; standAt a.pos; holding [v] (truthy v)) := by intro _; rfl) : DT X W a (tVal fa) := by
  refine imp_pt (pt_truth ha he) fun σ H Q ⟨hid, own, ρ, hS, h⟩ => ?_
  refine ⟨hid, own, ρ, hS, PostT.partE h fun e H1 v s1 r1 h1 => ?_⟩
  rcases gTru_cases e.2 with ⟨k, q⟩ | q
  · rw [q] at h1
    exact ⟨k, tru_of r1.rt q, h1 H1 (Same.refl _)⟩
  · rw [q] at h1; exact h1.elim
theorem dt_not (ha : DT X W a ta) : DT X W (.UnaryOp .Not a pos) (tNotF ta) :=
  imp_pt (pt_not ha) fun σ H Q ⟨hid, own, ρ, hS, h⟩ => ⟨hid, own, ρ, hS, PostT.part h fun e H1 s1 h1 => h1 H1 (Same.refl _)⟩
theorem dw_pt (h : DW X W a ta) : DT X W a ta := h.pt
theorem dw_and1 (ha : DT X W a ta) : DW X W (.BoolOp .And [a] pos) ta := pw_and1 ha
theorem dw_or1 (ha : DT X W a ta) : DW X W (.BoolOp .Or [a] pos) ta := pw_or1 ha
theorem dw_and (ha : DT X W a ta) (hb : DW X W (.BoolOp .And (b :: rest) pos) tb) : DW X W (.BoolOp .And (a :: b :: rest) pos) (tAndF ta tb) :=
  imp_pw (pw_and ha hb) fun σ H Q ⟨hid, own, ρ, hS, h⟩ => ⟨hid, own, ρ, hS, PostT.part h fun e H1 s1 h1 => by
    cases e with
    | true => rw [if_pos rfl] at h1 ⊢; exact ⟨hid, own, ρ, hS.mono s1, h1⟩
    | false => rw [if_neg Bool.false_ne_true] at h1 ⊢; exact h1 H1 (Same.refl _)⟩
theorem dw_or (ha : DT X W a ta) (hb : DW X W (.BoolOp .Or (b :: rest) pos) tb) : DW X W (.BoolOp .Or (a :: b :: rest) pos) (tOrF ta tb) :=
  imp_pw (pw_or ha hb) fun σ H Q ⟨hid, own, ρ, hS, h⟩ => ⟨hid, own, ρ, hS, PostT.part h fun e H1 s1 h1 => by
    cases e with
    | true => rw [if_pos rfl] at h1 ⊢; exact h1 H1 (Same.refl _)
    | false => rw [if_neg Bool.false_ne_true] at h1 ⊢; exact ⟨hid, own, ρ, hS.mono s1, h1⟩⟩
/-- and, or, not as values: the first ones by truth -/
def eAnd (fa fb : EF) : EF := fun ρ => (fa ρ).bind fun x => (gTru x.2).bind fun k => if k = true then fb ρ else .ok x
def eOr (fa fb : EF) : EF := fun ρ => (fa ρ).bind fun x => (gTru x.2).bind fun k => if k = true then .ok x else fb ρ
def eNot (fa : EF) : EF := fun ρ => (fa ρ).bind fun x => (gTru x.2).bind fun k => .ok (.cl, .bl (!k))
theorem keepV {K : PySem.W.Frag} {hid : Addr → Prop} {own : Own} {H H1 : Hp} {Wx : Str → Hp → Prop} {Q : VK} {e : Ev} {v : V} (s : Same H H1) (r : RV K hid own H H1 e.1 e.2 v) (h : Post K hid own H Wx (.ok e) Q) : Q v H1 := h H1 v s r
theorem de_and (ha : DE X W a fa) (hb : DE X W (.BoolOp .And (b :: rest) pos) fb) : DE X W (.BoolOp .And (a :: b :: rest) pos) (eAnd fa fb) := by
  refine imp_pe (pe_andT ha hb) fun σ H Q ⟨hid, own, ρ, hS, h⟩ => ⟨hid, own, ρ, hS, ?_⟩
  have h : Post X.K hid own H (Wc X.mg W σ) ((fa ρ).bind fun x => (gTru x.2).bind fun k => if k = true then fb ρ else .ok x) Q := h
  cases e : fa ρ with
  | ok x =>
    rw [e] at h
    have h : Post X.K hid own H (Wc X.mg W σ) ((gTru x.2).bind fun k => if k = true then fb ρ else .ok x) Q := h
    intro H1 v s1 r1
    rcases gTru_cases x.2 with ⟨k, q⟩ | q
    · rw [q] at h
      have h : Post X.K hid own H (Wc X.mg W σ) (if k = true then fb ρ else .ok x) Q := h
      refine ⟨k, tru_of r1.rt q, ?_⟩
      cases k with
      | true => exact ⟨hid, own, ρ, hS.mono s1, Post.mono s1 h⟩
      | false => exact h H1 v s1 r1
    · rw [q] at h; exact h.elim
  | exc c => rw [e] at h; exact h
  | bad => rw [e] at h; exact h
theorem de_or (ha : DE X W a fa) (hb : DE X W (.BoolOp .Or (b :: rest) pos) fb) : DE X W (.BoolOp .Or (a :: b :: rest) pos) (eOr fa fb) := by
  refine imp_pe (pe_orT ha hb) fun σ H Q ⟨hid, own, ρ, hS, h⟩ => ⟨hid, own, ρ, hS, ?_⟩
  have h : Post X.K hid own H (Wc X.mg W σ) ((fa ρ).bind fun x => (gTru x.2).bind fun k => if k = true then .ok x else fb ρ) Q := h
  cases e : fa ρ with
  | ok x =>
    rw [e] at h
    have h : Post X.K hid own H (Wc X.mg W σ) ((gTru x.2).bind fun k => if k = true then .ok x else fb ρ) Q := h
    intro H1 v s1 r1
    rcases gTru_cases x.2 with ⟨k, q⟩ | q
    · rw [q] at h
      have h : Post X.K hid own H (Wc X.mg W σ) (if k = true then .ok x else fb ρ) Q := h
      refine ⟨k, tru_of r1.rt q, ?_⟩
      cases k with
      | true => exact h H1 v s1 r1
      | false => exact ⟨hid, own, ρ, hS.mono s1, Post.mono s1 h⟩
    · rw [q] at h; exact h.elim
  | exc c => rw [e] at h; exact h
  | bad => rw [e] at h; exact h
theorem de_one {op} (h : DE X W a fa) : DE X W (.BoolOp op [a] pos) fa := pe_one h
theorem de_not (ha : DE X W a fa) : DE X W (.UnaryOp .Not a pos) (eNot fa) := by
  refine imp_pe (pe_notT ha) fun σ H Q ⟨hid, own, ρ, hS, h⟩ => ⟨hid, own, ρ, hS, Post.part h fun x H1 v s1 r1 h1 => ?_⟩
  rcases gTru_cases x.2 with ⟨k, q⟩ | q
  · rw [q] at h1
    exact ⟨k, tru_of r1.rt q, Post.now (K := X.K) h1 rfl⟩
  · rw [q] at h1; exact h1.elim
def eNeg (fa : EF) : EF := op1 (fun d => match d with | .int i => .ok (.cl, .int (-i)) | _ => .bad) fa
theorem de_neg (ha : DE X W a fa) : DE X W (.UnaryOp .USub a pos) (eNeg fa) := by
  refine imp_pe (pe_un un_neg ha) fun σ H Q ⟨hid, own, ρ, hS, h⟩ => ⟨hid, own, ρ, hS, Post.part h fun x H1 v s1 r1 h1 => ?_⟩
  obtain ⟨k, d⟩ := x
  cases d with
  | int i => exact ⟨i, r1.rt, Post.now (K := X.K) h1 rfl⟩
  | _ => exact h1.elim
def eIf (tc : TF) (fa fb : EF) : EF := fun ρ => (tc ρ).bind fun k => if k = true then fa ρ else fb ρ
theorem de_if (hc : DT X W c tc) (ha : DE X W a fa) (hb : DE X W b fb) : DE X W (.IfExp c a b pos) (eIf tc fa fb) :=
  imp_pe (pe_ifExp hc ha hb) fun σ H Q ⟨hid, own, ρ, hS, h⟩ => ⟨hid, own, ρ, hS, Post.partT h fun e H1 s1 h1 => by
    cases e with
    | true => rw [if_pos rfl] at h1 ⊢; exact ⟨hid, own, ρ, hS.mono s1, h1⟩
    | false => rw [if_neg Bool.false_ne_true] at h1 ⊢; exact ⟨hid, own, ρ, hS.mono s1, h1⟩⟩
/-- is None -/
def isN : D → Bool
  | .non => true
  | _ => false
def eIsN (neg : Bool) (fa : EF) : EF := op1 (fun d => .ok (.cl, .bl (if neg then !isN d else isN d))) fa
theorem isN_of {K : PySem.W.Frag} {hid : Addr → Prop} {own : Own} {H : Hp} : ∀ {d : D} {v : V}, RT K hid own H d v → decide (v = .non) = isN d := by
  intro d v h
  cases d with
  | non => cases (show _ = _ from h); rfl
  | bl b => cases (show _ = _ from h); rfl
  | int b => cases (show _ = _ from h); rfl
  | str b => cases (show _ = _ from h); rfl
  | tup b => obtain ⟨a, vs, h1, _⟩ := h; subst h1; rfl
  | lst b => obtain ⟨a, vs, h1, _⟩ := h; subst h1; rfl
  | rol b => obtain ⟨a, vs, h1, _⟩ := h; subst h1; rfl
theorem de_isN {j pos'} (ha : DE X W a fa) : DE X W (.Compare a [.Is] [.Constant .none j pos'] pos) (eIsN false fa) :=
  imp_pe (pe_cmp (pc_isN ha)) fun σ H Q ⟨hid, own, ρ, hS, h⟩ => ⟨hid, own, ρ, hS, Post.part h fun x H1 v s1 r1 h1 => by rw [isN_of r1.rt]; exact Post.now (K := X.K) h1 rfl⟩
theorem de_notN {j pos'} (ha : DE X W a fa) : DE X W (.Compare a [.IsNot] [.Constant .none j pos'] pos) (eIsN true fa) :=
  imp_pe (pe_cmp (pc_notN ha)) fun σ H Q ⟨hid, own, ρ, hS, h⟩ => ⟨hid, own, ρ, hS, Post.part h fun x H1 v s1 r1 h1 => by rw [isN_of r1.rt]; exact Post.now (K := X.K) h1 rfl⟩
def tE' (fa : EF) : TF := fun ρ => (fa ρ).bind asB
theorem dt_isN {j pos'} (ha : DE X W a fa) : DT X W (.Compare a [.Is] [.Constant .none j pos'] pos) (tE' (eIsN false fa)) :=
  imp_pt (pt_cmp (pc_isN ha)) fun σ H Q h => by
    obtain ⟨hid, own, ρ, hS, h⟩ := test_of σ H Q h
    exact ⟨hid, own, ρ, hS, Post.part h fun x H1 v s1 r1 h1 => by rw [isN_of r1.rt]; exact Post.now (K := X.K) h1 rfl⟩
theorem dt_notN {j pos'} (ha : DE X W a fa) : DT X W (.Compare a [.IsNot] [.Constant .none j pos'] pos) (tE' (eIsN true fa)) :=
  imp_pt (pt_cmp (pc_notN ha)) fun σ H Q h => by
    obtain ⟨hid, own, ρ, hS, h⟩ := test_of σ H Q h
    exact ⟨hid, own, ρ, hS, Post.part h fun x H1 v s1 r1 h1 => by rw [isN_of r1.rt]; exact Post.now (K := X.K) h1 rfl⟩
end

/-! ### calls of built-in functions -/
def CallG (K : PySem.W.Frag) (r : List V → Hp → VK → Prop) (g : D → R Ev) : Prop := ∀ {hid own H Wx x dx Q}, (∀ b, ob hid own b → H b ≠ none) → RT K hid own H dx x → Post K hid own H Wx (g dx) Q → r [x] H Q
def CallG2 (K : PySem.W.Frag) (r : List V → Hp → VK → Prop) (g : D → D → R Ev) : Prop := ∀ {hid own H Wx x y dx dy Q}, (∀ b, ob hid own b → H b ≠ none) → RT K hid own H dx x → RT K hid own H dy y → Post K hid own H Wx (g dx dy) Q → r [x, y] H Q
section
variable {X : Cx} {W : WX} {e e' : Expr} {fa fb : EF} {r : List V → Hp → VK → Prop} {g : D → R Ev} {g2 : D → D → R Ev} {x : Str} {p pos : Pos} {id T : String}
theorem one_arg (hg : CallG X.K r g) : ∀ σ H Q, tE X.K X.mg W (op1 g fa) σ H Q → tCB r (tCons (tE X.K X.mg W fa) tNil) σ H Q := fun σ H Q ⟨hid, own, ρ, hS, h⟩ =>
  ⟨hid, own, ρ, hS, Post.part h fun e H1 v s1 r1 h1 => hg (hS.mono s1).dom r1.rt h1⟩
theorem two_arg (hg : CallG2 X.K r g2) : ∀ σ H Q, tE X.K X.mg W (op2 g2 fa fb) σ H Q → tCB r (tCons (tE X.K X.mg W fa) (tCons (tE X.K X.mg W fb) tNil)) σ H Q := fun σ H Q ⟨hid, own, ρ, hS, h⟩ =>
  ⟨hid, own, ρ, hS, Post.part h fun e H1 v s1 r1 h1 => ⟨hid, own, ρ, hS.mono s1, Post.part h1 fun e2 H2 v2 s2 r2 h2 => hg ((hS.mono s1).mono s2).dom (r1.rt.mono s2) r2.rt h2⟩⟩
theorem de_callB (hc : CallR X (.builtin id) r) (hgg : CallG X.K r g) (hg : Gl X x) (hm : X.mg x = none) (hv : bootBuiltins x = some (.builtin id)) (ha : DE X W e fa) (hs : starEach [e] X.env = (false, eval e X.env) :: starEach [] X.env := by rfl)
    (hn : x ≠ "__name__" := by decide) (hdb : (x == ("__debug__" : Str)) = false := by decide) : DE X W (.Call (.Name x p) [e] [] pos) (op1 g fa) := imp_pe (pe_callB hc hg hm hv (pa_cons ha pa_nil hs) hn hdb hs rfl) (one_arg hgg)
theorem de_callT (hc : CallR X (.type T) r) (hgg : CallG X.K r g) (hg : Gl X x) (hm : X.mg x = none) (hv : bootBuiltins x = some (.type T)) (ha : DE X W e fa) (hs : starEach [e] X.env = (false, eval e X.env) :: starEach [] X.env := by rfl)
    (hn : x ≠ "__name__" := by decide) (hdb : (x == ("__debug__" : Str)) = false := by decide) : DE X W (.Call (.Name x p) [e] [] pos) (op1 g fa) := imp_pe (pe_callTy hc hg hm hv (pa_cons ha pa_nil hs) hn hdb hs rfl) (one_arg hgg)
theorem de_callB2 (hc : CallR X (.builtin id) r) (hgg : CallG2 X.K r g2) (hg : Gl X x) (hm : X.mg x = none) (hv : bootBuiltins x = some (.builtin id)) (ha : DE X W e fa) (hb : DE X W e' fb)
    (hs : starEach [e, e'] X.env = (false, eval e X.env) :: starEach [e'] X.env := by rfl) (hs' : starEach [e'] X.env = (false, eval e' X.env) :: starEach [] X.env := by rfl) (hpl : (backTo pos (starEach [e'] X.env)).any (·.1) = false := by rfl)
    (hn : x ≠ "__name__" := by decide) (hdb : (x == ("__debug__" : Str)) = false := by decide) : DE X W (.Call (.Name x p) [e, e'] [] pos) (op2 g2 fa fb) := imp_pe (pe_callB hc hg hm hv (pa_cons ha (pa_cons hb pa_nil hs') hs) hn hdb hs hpl) (two_arg hgg)
end
/-- len -/
def gLen : D → R Ev
  | .str x => if x.length ≤ 16777216 then .ok (.cl, .int x.length) else .bad
  | .tup xs => .ok (.cl, .int xs.length)
  | .lst xs => .ok (.cl, .int xs.length)
  | .rol xs => .ok (.cl, .int xs.length)
  | _ => .bad
theorem cg_len {K : PySem.W.Frag} : CallG K (fun xs H Q => ∃ x n, xs = [x] ∧ LenV K x H n ∧ Q (.int n) H) gLen := by
  intro hid own H Wx x dx Q hb rx q
  cases dx with
  | str z =>
    have q : Post K hid own H Wx (if z.length ≤ 16777216 then .ok (.cl, .int z.length) else .bad) Q := q
    split at q
    · rename_i hz
      exact ⟨x, z.length, rfl, by rw [show x = _ from rx]; exact ⟨by rw [S_len, sizeLine_eq]; exact hz, (S_len z).symm⟩, q.now rfl⟩
    · exact q.elim
  | tup xs =>
    obtain ⟨a, vs, h1, h2, h3⟩ := rx
    subst h1
    exact ⟨_, xs.length, rfl, .inr ⟨vs, same_seqT hd_le h2, h3.len.symm⟩, q.now rfl⟩
  | lst xs =>
    obtain ⟨a, vs, h1, h2, h3⟩ := rx
    subst h1
    exact ⟨_, xs.length, rfl, .inl ⟨vs, SqL.of (hd_le _ _ h2), h3.len.symm⟩, q.now rfl⟩
  | rol xs =>
    obtain ⟨a, vs, h1, h2, h3⟩ := rx
    subst h1
    exact ⟨_, xs.length, rfl, .inl ⟨vs, hd_le.seq h2, h3.len.symm⟩, q.now rfl⟩
  | _ => exact q.elim
def gInt : D → R Ev
  | .int i => .ok (.cl, .int i)
  | .bl k => .ok (.cl, .int (if k then 1 else 0))
  | _ => .bad
theorem cg_int {K : PySem.W.Frag} : CallG K (fun xs H Q => (∃ i, xs = [.int i] ∧ Q (.int i) H) ∨ ∃ k, xs = [.bl k] ∧ Q (.int (if k then 1 else 0)) H) gInt := by
  intro hid own H Wx x dx Q hb rx q
  cases dx with
  | int i => exact .inl ⟨i, by rw [show x = _ from rx], q.now rfl⟩
  | bl k => exact .inr ⟨k, by rw [show x = _ from rx], q.now rfl⟩
  | _ => exact q.elim
def gStr : D → R Ev
  | .int i => if 0 ≤ i ∧ i < 2 ^ 64 then .ok (.cl, .str (TL.numL i.toNat)) else .bad
  | _ => .bad
theorem log_small {n : Nat} (h : n < 2 ^ 64) : n.log2 < 1920 := by
  by_cases h0 : n = 0
  · rw [h0]; decide
  · have := (Nat.log2_lt h0).mpr h
    omega
theorem num_text {i : Int} (h : 0 ≤ i) : (toString i : Str) = S (TL.numL i.toNat) := by
  obtain ⟨n, rfl⟩ := Int.eq_ofNat_of_zero_le h
  exact TL.ext_tl (by
    show TL.tl (Str.ofString (toString ((n : Nat) : Int))) = _
    rw [TL.tl_num]
    exact (S_cps _).symm)
theorem cg_str {K : PySem.W.Frag} : CallG K (fun xs H Q => ∃ i, xs = [.int i] ∧ i.natAbs.log2 < 1920 ∧ Q (.str (toString i)) H) gStr := by
  intro hid own H Wx x dx Q hb rx q
  cases dx with
  | int i =>
    have q : Post K hid own H Wx (if 0 ≤ i ∧ i < 2 ^ 64 then .ok (.cl, .str (TL.numL i.toNat)) else .bad) Q := q
    split at q
    · rename_i h
      refine ⟨i, by rw [show x = _ from rx], log_small (by omega), ?_⟩
      rw [num_text h.1]
      exact q.now rfl
    · exact q.elim
  | _ => exact q.elim
def gOrd : D → R Ev
  | .str [c] => .ok (.cl, .int c)
  | _ => .bad
theorem cg_ord {K : PySem.W.Frag} : CallG K (fun xs H Q => ∃ x, xs = [.str x] ∧ x.length = 1 ∧ Q (.int (x.cps.getD 0 0 : Nat)) H) gOrd := by
  intro hid own H Wx x dx Q hb rx q
  unfold gOrd at q
  split at q
  · rename_i c
    exact ⟨S [c], by rw [show x = _ from rx], S_len _, q.now rfl⟩
  · exact q.elim
def unI : List D → Option (List Int)
  | [] => some []
  | .int i :: r => (unI r).map fun s => i :: s
  | _ => none
theorem unI_some : ∀ {ds : List D} {ns : List Int}, unI ds = some ns → ds = ns.map D.int
  | [], _, h => by cases h; rfl
  | .int i :: r, ns, h => by
    unfold unI at h
    cases q : unI r with
    | none => rw [q] at h; cases h
    | some s => rw [q] at h; cases h; rw [unI_some q]; rfl
  | .non :: _, _, h => nomatch h
  | .bl _ :: _, _, h => nomatch h
  | .str _ :: _, _, h => nomatch h
  | .tup _ :: _, _, h => nomatch h
  | .lst _ :: _, _, h => nomatch h
  | .rol _ :: _, _, h => nomatch h
@[simp] theorem unI_map (ns : List Int) : unI (ns.map D.int) = some ns := by
  induction ns with
  | nil => rfl
  | cons n r ih => rw [List.map_cons]; unfold unI; rw [ih]; rfl
def unB : List D → Option (List Bool)
  | [] => some []
  | .bl i :: r => (unB r).map fun s => i :: s
  | _ => none
theorem unB_some : ∀ {ds : List D} {ns : List Bool}, unB ds = some ns → ds = ns.map D.bl
  | [], _, h => by cases h; rfl
  | .bl i :: r, ns, h => by
    unfold unB at h
    cases q : unB r with
    | none => rw [q] at h; cases h
    | some s => rw [q] at h; cases h; rw [unB_some q]; rfl
  | .non :: _, _, h => nomatch h
  | .int _ :: _, _, h => nomatch h
  | .str _ :: _, _, h => nomatch h
  | .tup _ :: _, _, h => nomatch h
  | .lst _ :: _, _, h => nomatch h
  | .rol _ :: _, _, h => nomatch h
@[simp] theorem unB_map (ns : List Bool) : unB (ns.map D.bl) = some ns := by
  induction ns with
  | nil => rfl
  | cons n r ih => rw [List.map_cons]; unfold unB; rw [ih]; rfl
def unS : List D → Option (List (List Nat))
  | [] => some []
  | .str i :: r => (unS r).map fun s => i :: s
  | _ => none
theorem unS_some : ∀ {ds : List D} {ns : List (List Nat)}, unS ds = some ns → ds = ns.map D.str
  | [], _, h => by cases h; rfl
  | .str i :: r, ns, h => by
    unfold unS at h
    cases q : unS r with
    | none => rw [q] at h; cases h
    | some s => rw [q] at h; cases h; rw [unS_some q]; rfl
  | .non :: _, _, h => nomatch h
  | .int _ :: _, _, h => nomatch h
  | .bl _ :: _, _, h => nomatch h
  | .tup _ :: _, _, h => nomatch h
  | .lst _ :: _, _, h => nomatch h
  | .rol _ :: _, _, h => nomatch h
@[simp] theorem unS_map (ns : List (List Nat)) : unS (ns.map D.str) = some ns := by
  induction ns with
  | nil => rfl
  | cons n r ih => rw [List.map_cons]; unfold unS; rw [ih]; rfl
def gSum : D → R Ev
  | .lst ds => match unI ds with | some ns => .ok (.cl, .int ns.sum) | none => .bad
  | _ => .bad
theorem cg_sum {K : PySem.W.Frag} : CallG K (rSum K) gSum := by
  intro hid own H Wx x dx Q hb rx q
  cases dx with
  | lst ds =>
    have q : Post K hid own H Wx (match unI ds with | some ns => .ok (.cl, .int ns.sum) | none => .bad) Q := q
    cases e : unI ds with
    | none => rw [e] at q; exact q.elim
    | some ns =>
      rw [e] at q
      obtain ⟨a, vs, h1, h2, h3⟩ := rx
      subst h1
      rw [unI_some e] at h3
      exact ⟨a, ns, rfl, by rw [← h3.ints]; exact SqL.of (hd_le _ _ h2), q.now rfl⟩
  | _ => exact q.elim
def gAllAny (all : Bool) : D → R Ev
  | .lst ds => match unB ds with | some ns => .ok (.cl, .bl (if all then ns.all id else ns.any id)) | none => .bad
  | _ => .bad
theorem cg_all {K : PySem.W.Frag} : CallG K (rAll K) (gAllAny true) := by
  intro hid own H Wx x dx Q hb rx q
  cases dx with
  | lst ds =>
    have q : Post K hid own H Wx (match unB ds with | some ns => .ok (.cl, .bl (ns.all id)) | none => .bad) Q := q
    cases e : unB ds with
    | none => rw [e] at q; exact q.elim
    | some ns =>
      rw [e] at q
      obtain ⟨a, vs, h1, h2, h3⟩ := rx
      subst h1
      rw [unB_some e] at h3
      exact ⟨a, ns, rfl, by rw [← h3.bls]; exact SqL.of (hd_le _ _ h2), q.now rfl⟩
  | _ => exact q.elim
theorem cg_any {K : PySem.W.Frag} : CallG K (rAny K) (gAllAny false) := by
  intro hid own H Wx x dx Q hb rx q
  cases dx with
  | lst ds =>
    have q : Post K hid own H Wx (match unB ds with | some ns => .ok (.cl, .bl (ns.any id)) | none => .bad) Q := q
    cases e : unB ds with
    | none => rw [e] at q; exact q.elim
    | some ns =>
      rw [e] at q
      obtain ⟨a, vs, h1, h2, h3⟩ := rx
      subst h1
      rw [unB_some e] at h3
      exact ⟨a, ns, rfl, by rw [← h3.bls]; exact SqL.of (hd_le _ _ h2), q.now rfl⟩
  | _ => exact q.elim
def gList : D → R Ev
  | .lst ds => .ok (.fr, .lst ds)
  | .tup ds => .ok (.fr, .lst ds)
  | .rol ds => .ok (.fr, .lst ds)
  | _ => .bad
theorem cg_list {K : PySem.W.Frag} : CallG K (fun xs H Q => ∃ p ys, xs = [.ref p] ∧ (SqL K H p ys ∨ SqT K H p ys) ∧ ∀ l, H l = none → Q (.ref l) (upd H l (.lst ys))) gList := by
  intro hid own H Wx x dx Q hb rx q
  cases dx with
  | lst ds =>
    obtain ⟨a, vs, h1, h2, h3⟩ := rx
    subst h1
    exact ⟨a, vs, rfl, .inl (SqL.of (hd_le _ _ h2)), fun l nl => q.newL nl (no_dom hb nl) h3⟩
  | tup ds =>
    obtain ⟨a, vs, h1, h2, h3⟩ := rx
    subst h1
    exact ⟨a, vs, rfl, .inr (same_seqT hd_le h2), fun l nl => q.newL nl (no_dom hb nl) h3⟩
  | rol ds =>
    obtain ⟨a, vs, h1, h2, h3⟩ := rx
    subst h1
    exact ⟨a, vs, rfl, .inl (hd_le.seq h2), fun l nl => q.newL nl (no_dom hb nl) h3⟩
  | _ => exact q.elim
def gTuple : D → R Ev
  | .lst ds => .ok (.cl, .tup ds)
  | .tup ds => .ok (.cl, .tup ds)
  | _ => .bad
theorem cg_tuple {K : PySem.W.Frag} : CallG K (fun xs H Q => ∃ p ys, xs = [.ref p] ∧ ((SqL K H p ys ∧ ∀ l, H l = none → Q (.ref l) (upd H l (.tup ys))) ∨ (SqT K H p ys ∧ Q (.ref p) H))) gTuple := by
  intro hid own H Wx x dx Q hb rx q
  cases dx with
  | lst ds =>
    obtain ⟨a, vs, h1, h2, h3⟩ := rx
    subst h1
    exact ⟨a, vs, rfl, .inl ⟨SqL.of (hd_le _ _ h2), fun l nl => q.newT nl (no_dom hb nl) h3⟩⟩
  | tup ds =>
    obtain ⟨a, vs, h1, h2, h3⟩ := rx
    subst h1
    exact ⟨a, vs, rfl, .inr ⟨same_seqT hd_le h2, q.now ⟨a, vs, rfl, h2, h3⟩⟩⟩
  | _ => exact q.elim
def gMax2 : D → D → R Ev
  | .int i, .int j => .ok (.cl, .int (if j > i then j else i))
  | _, _ => .bad
theorem cg_max2 {K : PySem.W.Frag} : CallG2 K (fun xs H Q => ∃ i j, xs = [.int i, .int j] ∧ Q (.int (if j > i then j else i)) H) gMax2 := by
  intro hid own H Wx x y dx dy Q hb rx ry q
  unfold gMax2 at q
  split at q
  · exact ⟨_, _, by rw [show x = _ from rx, show y = _ from ry], q.now rfl⟩
  · exact q.elim
/-- isinstance(x, T), T a built-in class -/
def dty : D → String
  | .non => "NoneType"
  | .bl _ => "bool"
  | .int _ => "int"
  | .str _ => "str"
  | .tup _ => "tuple"
  | .lst _ => "list"
  | .rol _ => "list"
def inst (n : String) (d : D) : Bool := dty d == n || (dty d == "bool" && n == "int")
def eIsi (n : String) (fa : EF) : EF := op1 (fun d => .ok (.cl, .bl (inst n d))) fa
theorem kit_all (n : String) (h : kitB "NoneType" n = some ("NoneType" == n || ("NoneType" == "bool" && n == "int")) ∧ kitB "bool" n = some ("bool" == n || ("bool" == "bool" && n == "int")) ∧ kitB "int" n = some ("int" == n || ("int" == "bool" && n == "int")) ∧
    kitB "str" n = some ("str" == n || ("str" == "bool" && n == "int")) ∧ kitB "tuple" n = some ("tuple" == n || ("tuple" == "bool" && n == "int")) ∧ kitB "list" n = some ("list" == n || ("list" == "bool" && n == "int"))) : ∀ d, kitB (dty d) n = some (inst n d) := by
  obtain ⟨h1, h2, h3, h4, h5, h6⟩ := h
  intro d
  cases d with
  | non => exact h1
  | bl _ => exact h2
  | int _ => exact h3
  | str _ => exact h4
  | tup _ => exact h5
  | lst _ => exact h6
  | rol _ => exact h6
theorem tyx_of {K : PySem.W.Frag} {hid : Addr → Prop} {own : Own} {H : Hp} : ∀ {d : D} {v : V}, RT K hid own H d v → TyX K H v (.type (dty d)) := by
  intro d v h
  cases d with
  | non => cases (show _ = _ from h); exact .base .non
  | bl b => cases (show _ = _ from h); exact .base (.bl _)
  | int b => cases (show _ = _ from h); exact .base (.int _)
  | str b => cases (show _ = _ from h); exact .base (.str _)
  | tup b =>
    obtain ⟨a, vs, h1, h2, _⟩ := h
    subst h1
    rcases same_seqT hd_le h2 with (h2 | ⟨o, h2⟩) | ⟨o, its, n, h2, h3, _⟩
    · exact .base (.tup h2)
    · exact .fTuple h2
    · exact .kTuple h2 h3
  | lst b => obtain ⟨a, vs, h1, h2, _⟩ := h; subst h1; exact .base (.lst (hd_le _ _ h2))
  | rol b =>
    obtain ⟨a, vs, h1, h2, _⟩ := h
    subst h1
    rcases hd_le.seq h2 with (h2 | ⟨o, h2⟩) | ⟨o, its, n, h2, h3, _⟩
    · exact .base (.lst h2)
    · exact .base (.frz h2)
    · exact .kList h2 h3
section
variable {X : Cx} {W : WX} {e : Expr} {fa : EF} {p pos q : Pos}
theorem de_isi (n : String) {y : Str} (hk : ∀ d, kitB (dty d) n = some (inst n d)) (hg : Gl X "isinstance") (hm : X.mg "isinstance" = none) (hv : bootBuiltins "isinstance" = some (.builtin "isinstance")) (ha : DE X W e fa)
    (hy : Gl X y) (hmy : X.mg y = none) (hvy : bootBuiltins y = some (.type n)) (hs : starEach [e, .Name y q] X.env = (false, eval e X.env) :: starEach [.Name y q] X.env := by rfl)
    (hny : y ≠ "__name__" := by decide) (hdy : (y == ("__debug__" : Str)) = false := by decide) : DE X W (.Call (.Name "isinstance" p) [e, .Name y q] [] pos) (eIsi n fa) := by
  refine imp_pe (pe_callB call_isi hg hm hv (pa_cons ha (pa_cons (pe_bltn (v := .ty n) hy hmy hvy rfl hny hdy) pa_nil) hs) (by decide) (by decide) hs rfl) fun σ H Q ⟨hid, own, ρ, hS, h⟩ => ?_
  refine ⟨hid, own, ρ, hS, Post.part h fun x H1 v s1 r1 h1 => ?_⟩
  exact ⟨v, .ty n, _, _, inst n x.2, rfl, .ty n, tyx_of r1.rt, kit_ty (hk x.2), Post.now (K := X.K) h1 rfl⟩
end
end PL
set_option Elab.async false
set_option linter.all false
set_option maxRecDepth 100000
set_option maxHeartbeats 4000000
/-! PL4: methods of texts, subscripts, slices, displays, f-strings, calls of defs. -/
namespace PL
open PySem PySem.Spec L2

theorem RV.fwd {K : PySem.W.Frag} {hid : Addr → Prop} {own : Own} {H H1 H2 : Hp} (s : Same H1 H2) : ∀ {k : Kd} {d : D} {v : V}, RV K hid own H H1 k d v → RV K hid own H H2 k d v
  | .pk, _, _, h => RT.mono s h
  | .cl, _, _, h => Rp.mono (hd_same s) _ _ h
  | .fr, d, _, ⟨a, e, n, nb, m⟩ => by
    refine ⟨a, e, n, nb, ?_⟩
    cases d with
    | lst ds =>
      obtain ⟨vs, e1, e2⟩ := m
      exact ⟨vs, s _ _ e1, RpL.mono (hd_same s) _ _ e2⟩
    | _ => exact m.elim

/-! ### methods of texts with one argument -/
def mth1 (g : D → D → R Ev) (fa fb : EF) : EF := fun ρ => (fa ρ).bind fun x => if isS x.2 = true then (fb ρ).bind fun y => g x.2 y.2 else .bad
def MthG (K : PySem.W.Frag) (r : V → List V → Hp → VK → Prop) (g : D → D → R Ev) : Prop := ∀ {hid own H Wx a y dy Q}, (∀ b, ob hid own b → H b ≠ none) → RT K hid own H dy y → Post K hid own H Wx (g (.str a) dy) Q → r (.str (S a)) [y] H Q
theorem isS_of {d : D} (h : isS d = true) : ∃ a, d = .str a := by
  cases d with
  | str a => exact ⟨a, rfl⟩
  | _ => exact absurd (show false = true from h) Bool.false_ne_true
section
variable {X : Cx} {W : WX} {o e : Expr} {fa fb : EF} {apos pos : Pos} {r : V → List V → Hp → VK → Prop} {g : D → D → R Ev}
theorem de_m1 {id : String} {name : Str} (slot : Slot "str" name id) (ty : typeOf (.builtin id) = pure (.type "method_descriptor")) (rule : MtR X id r) (hg : MthG X.K r g) (ho : DE X W o fa) (he : DE X W e fb)
    (hs : starEach [e] X.env = [(false, eval e X.env)] := by rfl) (hbase : attributeBase o name X.env (eval o X.env) = eval o X.env := by rfl) (hline : (apos.endLine == pos.line) = true := by rfl) :
    DE X W (.Call (.Attribute o name apos) [e] [] pos) (mth1 g fa fb) := by
  refine imp_pe (pe_m1 slot ty rule ho he hs hbase hline) fun σ H Q ⟨hid, own, ρ, hS, h⟩ => ⟨hid, own, ρ, hS, Post.part h fun x H1 v s1 r1 h1 => ?_⟩
  by_cases c : isS x.2 = true
  · rw [if_pos c] at h1
    obtain ⟨a, ea⟩ := isS_of c
    have rt := r1.rt
    rw [ea] at rt h1
    cases (show v = _ from rt)
    exact ⟨⟨_, rfl⟩, hid, own, ρ, hS.mono s1, Post.part h1 fun y H2 u s2 r2 h2 => hg ((hS.mono s1).mono s2).dom r2.rt h2⟩
  · rw [if_neg c] at h1; exact h1.elim
end
def all256 (b : List Nat) : Bool := b.all (· < 256)
theorem kind_S {a b : List Nat} (h : all256 b = true) : ¬ Builtin.Str.strKind (S a) < Builtin.Str.strKind (S b) := TL.kind_ok (by
  show (S b).cps.all (· < 256) = true
  simpa [S, all256] using h)
def gSplit : D → D → R Ev
  | .str a, .str b => if a.length + 2 ≤ 16777216 ∧ b ≠ [] ∧ all256 b = true then .ok (.fr, .lst ((TL.spl b 0 [] a).map D.str)) else .bad
  | _, _ => .bad
theorem split_S {a b : List Nat} (h1 : b ≠ []) (h2 : all256 b = true) : Txt.split (S a) (S b) = (TL.spl b 0 [] a).map S := by
  refine TL.map_tl_inj ?_
  rw [TL.split_spl _ _ (by rw [show TL.tl (S b) = b from S_cps b]; exact h1) (kind_S h2), show TL.tl (S b) = b from S_cps b, show TL.tl (S a) = a from S_cps a, List.map_map]
  conv => lhs; rw [← List.map_id (TL.spl b 0 [] a)]
  exact List.map_congr_left fun x _ => (S_cps x).symm
theorem mg_split {K : PySem.W.Frag} : MthG K (fun x xs H Q => ∃ a b, x = .str a ∧ xs = [.str b] ∧ (b.length == 0) = false ∧ a.length + 2 ≤ sizeLine ∧ rNewStrs (Txt.split a b) H Q) gSplit := by
  intro hid own H Wx a y dy Q hb ry q
  cases dy with
  | str b =>
    have q : Post K hid own H Wx (if a.length + 2 ≤ 16777216 ∧ b ≠ [] ∧ all256 b = true then .ok (.fr, .lst ((TL.spl b 0 [] a).map D.str)) else .bad) Q := q
    split at q
    · rename_i h
      cases (show y = _ from ry)
      refine ⟨_, _, rfl, rfl, ?_, by rw [S_len, sizeLine_eq]; exact h.1, fun p np => ?_⟩
      · rw [S_len, beq_eq_false_iff_ne]
        exact fun z => h.2.1 (List.length_eq_zero_iff.mp z)
      · rw [split_S h.2.1 h.2.2]
        exact q.newL np (no_dom hb np) (RpL.of_strs _)
    · exact q.elim
  | _ => exact q.elim
def gPart : D → D → R Ev
  | .str a, .str b => if a.length ≤ 16777216 ∧ b ≠ [] then .ok (.cl, match TL.par b [] a with
      | some (p, q) => .tup [.str p, .str b, .str q]
      | none => .tup [.str a, .str [], .str []]) else .bad
  | _, _ => .bad
theorem mg_part {K : PySem.W.Frag} : MthG K (fun x xs H Q => ∃ a b, x = .str a ∧ xs = [.str b] ∧ (b.length == 0) = false ∧ a.length ≤ sizeLine ∧
      ∀ p, H p = none → Q (.ref p) (upd H p (.tup [.str (Txt.partition a b).1, .str (Txt.partition a b).2.1, .str (Txt.partition a b).2.2]))) gPart := by
  intro hid own H Wx a y dy Q hb ry q
  cases dy with
  | str b =>
    have q : Post K hid own H Wx (if a.length ≤ 16777216 ∧ b ≠ [] then .ok (.cl, match TL.par b [] a with
      | some (p, q) => .tup [.str p, .str b, .str q]
      | none => .tup [.str a, .str [], .str []]) else .bad) Q := q
    split at q
    · rename_i h
      cases (show y = _ from ry)
      refine ⟨_, _, rfl, rfl, ?_, by rw [S_len, sizeLine_eq]; exact h.1, fun p np => ?_⟩
      · rw [S_len, beq_eq_false_iff_ne]
        exact fun z => h.2 (List.length_eq_zero_iff.mp z)
      · rw [TL.partition_par _ _ (by rw [show TL.tl (S b) = b from S_cps b]; exact h.2), show TL.tl (S b) = b from S_cps b, show TL.tl (S a) = a from S_cps a]
        cases e : TL.par b [] a with
        | none => rw [e] at q; exact q.newT np (no_dom hb np) ⟨_, _, rfl, rfl, _, _, rfl, rfl, _, _, rfl, rfl, rfl⟩
        | some z =>
          obtain ⟨z1, z2⟩ := z
          rw [e] at q
          exact q.newT np (no_dom hb np) ⟨_, _, rfl, rfl, _, _, rfl, rfl, _, _, rfl, rfl, rfl⟩
    · exact q.elim
  | _ => exact q.elim
def joinSize (a : List Nat) (ns : List (List Nat)) : Nat := (ns.map List.length).sum + ns.length * a.length
def joinR (a : List Nat) (ds : List D) : R Ev := match unS ds with
  | some ns => if joinSize a ns ≤ 16777216 then .ok (.cl, .str (TL.joinL a ns)) else .bad
  | none => .bad
def gJoin : D → D → R Ev
  | .str a, .lst ds => joinR a ds
  | .str a, .tup ds => joinR a ds
  | _, _ => .bad
theorem join_S (a : List Nat) (ns : List (List Nat)) : Txt.join (S a) (ns.map S) = S (TL.joinL a ns) := by
  rw [TL.join_eq]
  refine TL.ext_tl ?_
  rw [TL.tl_join, List.map_map, show TL.tl (S a) = a from S_cps a, show TL.tl (S (TL.joinL a ns)) = _ from S_cps _]
  have e : List.map (TL.tl ∘ S) ns = ns := by
    conv => rhs; rw [← List.map_id ns]
    exact List.map_congr_left fun x _ => S_cps x
  rw [e]
theorem sum_S (ns : List (List Nat)) : ((ns.map S).map (·.length)).sum = (ns.map List.length).sum := by
  rw [List.map_map]
  exact congrArg List.sum (List.map_congr_left fun x _ => S_len x)
theorem mg_join {K : PySem.W.Frag} : MthG K (fun x xs H Q => ∃ a p, ∃ ys : List Str, x = .str a ∧ xs = [.ref p] ∧ (SqL K H p (ys.map V.str) ∨ SqT K H p (ys.map V.str)) ∧
      (ys.map (·.length)).sum + ys.length * a.length ≤ 16777216 ∧ Q (.str (Txt.join a ys)) H) gJoin := by
  intro hid own H Wx a y dy Q hb ry q
  have fin : ∀ (ds : List D) (vs : List V) (p : Addr), Post K hid own H Wx (joinR a ds) Q → RpL K (hd H (ob hid own)) ds vs → y = .ref p → (SqL K H p vs ∨ SqT K H p vs) → ∃ a' p, ∃ ys : List Str, V.str (S a) = .str a' ∧ [y] = [.ref p] ∧ (SqL K H p (ys.map V.str) ∨ SqT K H p (ys.map V.str)) ∧
      (ys.map (·.length)).sum + ys.length * a'.length ≤ 16777216 ∧ Q (.str (Txt.join a' ys)) H := fun ds vs p q r e h => by
    unfold joinR at q
    cases en : unS ds with
    | none => rw [en] at q; exact q.elim
    | some ns =>
      rw [en] at q
      have q : Post K hid own H Wx (if joinSize a ns ≤ 16777216 then .ok (.cl, .str (TL.joinL a ns)) else .bad) Q := q
      split at q
      · rename_i hz
        rw [unS_some en] at r
        rw [r.strs] at h
        refine ⟨S a, p, ns.map S, rfl, by rw [e], h, ?_, ?_⟩
        · rw [sum_S, List.length_map, S_len]; exact hz
        · rw [join_S]; exact q.now rfl
      · exact q.elim
  cases dy with
  | lst ds =>
    obtain ⟨p, vs, h1, h2, h3⟩ := ry
    exact fin ds vs p q h3 h1 (.inl (SqL.of (hd_le _ _ h2)))
  | tup ds =>
    obtain ⟨p, vs, h1, h2, h3⟩ := ry
    exact fin ds vs p q h3 h1 (.inr (same_seqT hd_le h2))
  | _ => exact q.elim
section
variable {X : Cx} {W : WX} {o e : Expr} {fa fb : EF} {apos pos : Pos}
theorem de_split (ho : DE X W o fa) (he : DE X W e fb) (hs : starEach [e] X.env = [(false, eval e X.env)] := by rfl) (hbase : attributeBase o "split" X.env (eval o X.env) = eval o X.env := by rfl) (hline : (apos.endLine == pos.line) = true := by rfl) :
    DE X W (.Call (.Attribute o "split" apos) [e] [] pos) (mth1 gSplit fa fb) := de_m1 F.slot_str_split F.type_str_split mt_split mg_split ho he hs hbase hline
theorem de_part (ho : DE X W o fa) (he : DE X W e fb) (hs : starEach [e] X.env = [(false, eval e X.env)] := by rfl) (hbase : attributeBase o "partition" X.env (eval o X.env) = eval o X.env := by rfl) (hline : (apos.endLine == pos.line) = true := by rfl) :
    DE X W (.Call (.Attribute o "partition" apos) [e] [] pos) (mth1 gPart fa fb) := de_m1 F.slot_str_partition F.type_str_partition mt_partition mg_part ho he hs hbase hline
theorem de_join (ho : DE X W o fa) (he : DE X W e fb) (hs : starEach [e] X.env = [(false, eval e X.env)] := by rfl) (hbase : attributeBase o "join" X.env (eval o X.env) = eval o X.env := by rfl) (hline : (apos.endLine == pos.line) = true := by rfl) :
    DE X W (.Call (.Attribute o "join" apos) [e] [] pos) (mth1 gJoin fa fb) := de_m1 F.slot_str_join F.type_str_join mt_join mg_join ho he hs hbase hline
end

/-! ### subscripts, slices -/
def gIx : D → D → R Ev
  | .lst ds, .int i => match atI ds i with | some d => .ok (.cl, d) | none => .bad
  | .rol ds, .int i => match atI ds i with | some d => .ok (.cl, d) | none => .bad
  | .tup ds, .int i => match atI ds i with | some d => .ok (.cl, d) | none => .bad
  | .str z, .int i => if z.length ≤ 16777216 then (match atI z i with | some c => .ok (.cl, .str [c]) | none => .bad) else .bad
  | _, _ => .bad
theorem atI_rp {K : PySem.W.Frag} {H : Hp} {ds : List D} {vs : List V} {i : Int} {d : D} (r : RpL K H ds vs) (h : atI ds i = some d) : ∃ v, atI vs i = some v ∧ Rp K H d v := by
  unfold atI at h ⊢
  rw [r.len]
  cases e : ixN ds.length i with
  | none => rw [e] at h; cases h
  | some j => rw [e] at h; exact r.get h
theorem opg_ix {K : PySem.W.Frag} : OpG K (rIx K) gIx := by
  intro hid own H Wx x y dx dy Q hb rx ry q
  have key : ∀ (ds : List D) (vs : List V) (i : Int), Post K hid own H Wx (match atI ds i with | some d => .ok (.cl, d) | none => .bad) Q → RpL K (hd H (ob hid own)) ds vs → ∃ v, atI vs i = some v ∧ Q v H := fun ds vs i q r => by
    cases e : atI ds i with
    | none => rw [e] at q; exact q.elim
    | some d =>
      rw [e] at q
      obtain ⟨v, e1, e2⟩ := atI_rp r e
      exact ⟨v, e1, q.now e2⟩
  cases dy with
  | int i =>
    cases (show y = _ from ry)
    cases dx with
    | lst ds =>
      obtain ⟨a, vs, h1, h2, h3⟩ := rx
      obtain ⟨v, e1, e2⟩ := key ds vs i q h3
      exact .inl ⟨a, vs, i, v, h1, rfl, SqL.of (hd_le _ _ h2), e1, e2⟩
    | rol ds =>
      obtain ⟨a, vs, h1, h2, h3⟩ := rx
      obtain ⟨v, e1, e2⟩ := key ds vs i q h3
      exact .inl ⟨a, vs, i, v, h1, rfl, hd_le.seq h2, e1, e2⟩
    | tup ds =>
      obtain ⟨a, vs, h1, h2, h3⟩ := rx
      obtain ⟨v, e1, e2⟩ := key ds vs i q h3
      exact .inr (.inl ⟨a, vs, i, v, h1, rfl, same_seqT hd_le h2, e1, e2⟩)
    | str z =>
      have q : Post K hid own H Wx (if z.length ≤ 16777216 then (match atI z i with | some c => .ok (.cl, .str [c]) | none => .bad) else .bad) Q := q
      split at q
      · rename_i hz
        cases e : atI z i with
        | none => rw [e] at q; exact q.elim
        | some c =>
          rw [e] at q
          exact .inr (.inr ⟨S z, i, c, rx, rfl, by rw [S_len, sizeLine_eq]; exact hz, by rw [S_cps]; exact e, q.now rfl⟩)
      · exact q.elim
    | _ => exact q.elim
  | _ => cases dx <;> exact q.elim
section
variable {X : Cx} {W : WX} {a b : Expr} {fa fb : EF} {pos : Pos}
theorem de_ix (ha : DE X W a fa) (hb : DE X W b fb) (hs : PlainIx b := by intro _ _; rfl) : DE X W (.Subscript a b pos) (op2 gIx fa fb) := imp_pe (pe_ix ix_seq ha hb hs) (two opg_ix)
end
abbrev OF := Ro → R (Option Int)
def tO (K : PySem.W.Frag) (mg : Str → Option Value) (W : WX) (f : OF) : TO := fun σ H Q => ∃ hid own ρ, SR K hid own H ρ σ ∧ match f ρ with
  | .ok o => ∀ H', Same H H' → Q o H'
  | .exc c => ∀ H', Same H H' → Wc mg W σ c H'
  | .bad => False
theorem imp_po {X : Cx} {e : Option Expr} {t t' : TO} (h : PO X e t) (k : ∀ σ H Q, t' σ H Q → t σ H Q) : PO X e t' := ⟨fun pins s σ H Q I q => h.run pins s σ H Q I (k _ _ _ q)⟩
abbrev DO (X : Cx) (W : WX) (e : Option Expr) (f : OF) : Prop := PO X e (tO X.K X.mg W f)
def oNo : OF := fun _ => .ok none
def oSome (fa : EF) : OF := fun ρ => (fa ρ).bind fun x => match x.2 with | .int i => .ok (some i) | _ => .bad
section
variable {X : Cx} {W : WX} {e : Expr} {fa : EF} {lo hi : Option Expr} {fl fh : OF} {pos p2 : Pos}
theorem do_none : DO X W none oNo := imp_po po_none fun σ H Q ⟨hid, own, ρ, hS, h⟩ => h H (Same.refl _)
theorem do_some (h : DE X W e fa) : DO X W (some e) (oSome fa) := by
  refine imp_po (po_some h) fun σ H Q ⟨hid, own, ρ, hS, q⟩ => ⟨hid, own, ρ, hS, ?_⟩
  unfold oSome at q
  cases e1 : fa ρ with
  | ok x =>
    rw [e1] at q
    obtain ⟨k, d⟩ := x
    intro H1 v s1 r1
    cases d with
    | int i => exact ⟨i, r1.rt, q H1 s1⟩
    | _ => exact q.elim
  | exc c => rw [e1] at q; exact q
  | bad => rw [e1] at q; exact q
def cutL {α : Type} (xs : List α) (lo hi : Option Int) : List α := (xs.drop (HT.sIx xs.length 0 lo)).take (HT.sIx xs.length xs.length hi - HT.sIx xs.length 0 lo)
def gSl : D → Option Int → Option Int → R Ev
  | .str z, lo, hi => if z.length ≤ 16777216 then .ok (.cl, .str (cutL z lo hi)) else .bad
  | .lst ds, lo, hi => .ok (.fr, .lst (cutL ds lo hi))
  | .tup ds, lo, hi => .ok (.cl, .tup (cutL ds lo hi))
  | _, _, _ => .bad
def eSl (fa : EF) (fl fh : OF) : EF := fun ρ => (fa ρ).bind fun x => (fl ρ).bind fun l => (fh ρ).bind fun h => gSl x.2 l h
theorem cut_S (z : List Nat) (lo hi : Option Int) : cutS (S z) lo hi = S (cutL z lo hi) := by
  unfold cutS cutL
  rw [S_len, S_cps] <;> rfl
theorem cut_rp {K : PySem.W.Frag} {H : Hp} {ds : List D} {vs : List V} (r : RpL K H ds vs) (lo hi : Option Int) : RpL K H (cutL ds lo hi) (cutV vs lo hi) := by
  unfold cutL cutV
  rw [r.len]
  exact (r.drop _).take _
theorem cut_all {α : Type} {xs : List α} {lo hi : Option Int} (h : HT.sIx xs.length 0 lo = 0 ∧ HT.sIx xs.length xs.length hi = xs.length) : cutL xs lo hi = xs := by
  unfold cutL
  rw [h.1, h.2, List.drop_zero, Nat.sub_zero, List.take_length]
theorem slR_any : SlR X (fun x lo hi H Q => rSlS x lo hi H Q ∨ rSlL X.K x lo hi H Q ∨ rSlA X.K x lo hi H Q) := sl_str.or (sl_list.or sl_tupA)
theorem de_slice (ha : DE X W e fa) (hl : DO X W lo fl) (hh : DO X W hi fh) : DE X W (.Subscript e (.Slice lo hi none p2) pos) (eSl fa fl fh) := by
  refine imp_pe (pe_slice slR_any ha hl hh) fun σ H Q ⟨hid, own, ρ, hS, h⟩ => ⟨hid, own, ρ, hS, Post.part h fun x H1 v s1 r1 h1 => ⟨hid, own, ρ, hS.mono s1, ?_⟩⟩
  cases e1 : fl ρ with
  | exc c => rw [e1] at h1; exact h1
  | bad => rw [e1] at h1; exact h1
  | ok l =>
    rw [e1] at h1
    have h1 : Post X.K hid own H1 (Wc X.mg W σ) ((fh ρ).bind fun h => gSl x.2 l h) Q := h1
    intro H2 s2
    refine ⟨hid, own, ρ, (hS.mono s1).mono s2, ?_⟩
    cases e2 : fh ρ with
    | exc c => rw [e2] at h1; exact fun H3 s3 => h1 H3 (s2.trans s3)
    | bad => rw [e2] at h1; exact h1
    | ok h =>
      rw [e2] at h1
      have h1 : Post X.K hid own H1 (Wc X.mg W σ) (gSl x.2 l h) Q := h1
      intro H3 s3
      have S3 := ((hS.mono s1).mono s2).mono s3
      have rt : RT X.K hid own H3 x.2 v := (r1.rt.mono s2).mono s3
      have h3 := Post.mono (s2.trans s3) h1
      obtain ⟨k, d⟩ := x
      cases d with
      | str z =>
        have h3 : Post X.K hid own H3 (Wc X.mg W σ) (if z.length ≤ 16777216 then .ok (.cl, .str (cutL z l h)) else .bad) Q := h3
        split at h3
        · rename_i hz
          exact .inl ⟨S z, rt, by rw [S_len, sizeLine_eq]; exact hz, by rw [cut_S]; exact h3.now rfl⟩
        · exact h3.elim
      | lst ds =>
        obtain ⟨a, vs, q1, q2, q3⟩ := rt
        exact .inr (.inl ⟨a, vs, q1, SqL.of (hd_le _ _ q2), fun p np => h3.newL np (no_dom S3.dom np) (cut_rp q3 l h)⟩)
      | tup ds =>
        obtain ⟨a, vs, q1, q2, q3⟩ := rt
        refine .inr (.inr ⟨a, vs, q1, same_seqT hd_le q2, fun w => ?_, fun w p np => h3.newT np (no_dom S3.dom np) (cut_rp q3 l h)⟩)
        rw [q3.len] at w
        have h3 : Post X.K hid own H3 (Wc X.mg W σ) (.ok (.cl, .tup (cutL ds l h))) Q := h3
        rw [cut_all w] at h3
        exact h3.now ⟨a, vs, rfl, q2, q3⟩
      | _ => exact h3.elim
/-- xs[::-1] -/
def eRev (fa : EF) : EF := op1 (fun d => match d with | .lst ds => .ok (.fr, .lst ds.reverse) | _ => .bad) fa
theorem de_rev {k : Nat} {p1 p3 : Pos} (ha : DE X W e fa) : DE X W (.Subscript e (.Slice none none (some (.UnaryOp .USub (.Constant (.int 1) k p1) p2)) p3) pos) (eRev fa) := by
  refine imp_pe (pe_revL ha) fun σ H Q ⟨hid, own, ρ, hS, h⟩ => ⟨hid, own, ρ, hS, Post.part h fun x H1 v s1 r1 h1 => ?_⟩
  obtain ⟨k, d⟩ := x
  cases d with
  | lst ds =>
    obtain ⟨a, vs, q1, q2, q3⟩ := r1.rt
    exact ⟨a, vs, q1, SqL.of (hd_le _ _ q2), fun p np => Post.newL (K := X.K) h1 np ((hS.mono s1).vis np) q3.rev⟩
  | _ => exact h1.elim
end

/-! ### arguments and displays -/
def aNil : AF := fun _ => .ok []
def aCons (fa : EF) (fs : AF) : AF := fun ρ => (fa ρ).bind fun e => (fs ρ).bind fun es => .ok (e :: es)
section
variable {X : Cx} {W : WX} {e : Expr} {es : List Expr} {fa : EF} {fs : AF} {pos : Pos}
theorem da_nil : DA X W [] aNil := imp_pa pa_nil fun σ H Q ⟨hid, own, ρ, hS, h⟩ => h H [] (Same.refl _) hS.dom rfl
theorem da_cons (ha : DE X W e fa) (hr : DA X W es fs) (hs : starEach (e :: es) X.env = (false, eval e X.env) :: starEach es X.env := by rfl) : DA X W (e :: es) (aCons fa fs) := by
  refine imp_pa (pa_cons ha hr hs) fun σ H Q ⟨hid, own, ρ, hS, h⟩ => ⟨hid, own, ρ, hS, ?_⟩
  unfold aCons at h
  cases e1 : fa ρ with
  | exc c => rw [e1] at h; exact h
  | bad => rw [e1] at h; exact h
  | ok x =>
    rw [e1] at h
    intro H1 v s1 r1
    refine ⟨hid, own, ρ, hS.mono s1, ?_⟩
    have h : PostA X.K hid own H (Wc X.mg W σ) ((fs ρ).bind fun es => .ok (x :: es)) Q := h
    cases e2 : fs ρ with
    | exc c => rw [e2] at h; exact fun H2 s2 => h H2 (s1.trans s2)
    | bad => rw [e2] at h; exact h
    | ok ys =>
      rw [e2] at h
      intro H2 vs s2 d2 r2
      exact h H2 (v :: vs) (s1.trans s2) d2 ⟨v, vs, rfl, r1.fwd s2, r2.base s1⟩
theorem RVs.clean {K : PySem.W.Frag} {hid : Addr → Prop} {own : Own} {H H' : Hp} : ∀ {es : List Ev} {vs : List V}, es.all okE = true → RVs K hid own H H' es vs → RpL K (hd H' (ob hid own)) (es.map (·.2)) vs
  | [], _, _, h => h
  | (k, d) :: es, _, o, ⟨v, r, e, a, b⟩ => by
    rw [List.all_cons, Bool.and_eq_true] at o
    exact ⟨v, r, e, a.clean o.1, RVs.clean o.2 b⟩
theorem RVs.len {K : PySem.W.Frag} {hid : Addr → Prop} {own : Own} {H H' : Hp} : ∀ {es : List Ev} {vs : List V}, RVs K hid own H H' es vs → vs.length = es.length
  | [], _, h => by rw [show _ = _ from h]; rfl
  | _ :: _, _, ⟨v, r, e, a, b⟩ => by rw [e, List.length_cons, List.length_cons, RVs.len b]
def disp (mk : List D → Ev) (fs : AF) : EF := fun ρ => (fs ρ).bind fun es => if es.all okE = true ∧ es.length ≤ 16777216 then .ok (mk (es.map (·.2))) else .bad
theorem disp_part {σ : L2.St} {H : Hp} {Q : VK} {mk : List D → Ev} {T : List V → Hp → Prop} {hid : Addr → Prop} {own : Own} {ρ : Ro} (h : Post X.K hid own H (Wc X.mg W σ) (disp mk fs ρ) Q)
    (k : ∀ ds vs H1, Same H H1 → (∀ b, ob hid own b → H1 b ≠ none) → RpL X.K (hd H1 (ob hid own)) ds vs → vs.length ≤ sizeLine → Post X.K hid own H1 (Wc X.mg W σ) (.ok (mk ds)) Q → T vs H1) : PostA X.K hid own H (Wc X.mg W σ) (fs ρ) T := by
  unfold disp at h
  cases e : fs ρ with
  | exc c => rw [e] at h; exact h
  | bad => rw [e] at h; exact h
  | ok es =>
    rw [e] at h
    intro H1 vs s1 d1 r1
    have h : Post X.K hid own H (Wc X.mg W σ) (if es.all okE = true ∧ es.length ≤ 16777216 then .ok (mk (es.map (·.2))) else .bad) Q := h
    split at h
    · rename_i c
      exact k _ vs H1 s1 d1 (r1.clean c.1) (by rw [r1.len, sizeLine_eq]; exact c.2) (Post.mono s1 h)
    · exact h.elim
theorem de_lst (h : DA X W es fs) : DE X W (.List es pos) (disp (fun ds => (.fr, .lst ds)) fs) :=
  imp_pe (pe_lst h) fun σ H Q ⟨hid, own, ρ, hS, q⟩ => ⟨hid, own, ρ, hS, disp_part q fun ds vs H1 s1 d1 r z q1 => ⟨z, fun p np => q1.newL np (no_dom d1 np) r⟩⟩
theorem de_tup {x1 : Nat} (h : DA X W es fs) : DE X W (.Tuple es x1 pos) (disp (fun ds => (.cl, .tup ds)) fs) :=
  imp_pe (pe_tup h) fun σ H Q ⟨hid, own, ρ, hS, q⟩ => ⟨hid, own, ρ, hS, disp_part q fun ds vs H1 s1 d1 r z q1 => ⟨z, fun p np => q1.newT np (no_dom d1 np) r⟩⟩
end

/-! ### f-strings -/
def fFmt (fa : EF) : EF := op1 (fun d => match d with
  | .str a => if a.length ≤ 16777216 then .ok (.cl, .str a) else .bad
  | .int i => if 0 ≤ i ∧ i < 2 ^ 64 then .ok (.cl, .str (TL.numL i.toNat)) else .bad
  | _ => .bad) fa
inductive DJ (X : Cx) (W : WX) : List Expr → List EF → Prop where
  | nil : DJ X W [] []
  | cons {e : Expr} {f : EF} {es : List Expr} {fs : List EF} (h : DE X W e f) (r : DJ X W es fs) : DJ X W (e :: es) (f :: fs)
def eFs : List EF → List Nat → EF
  | [], acc => fun _ => .ok (.cl, .str acc)
  | f :: fs, acc => fun ρ => (f ρ).bind fun x => match x.2 with
    | .str y => if (acc ++ y).length ≤ 16777216 then eFs fs (acc ++ y) ρ else .bad
    | _ => .bad
section
variable {X : Cx} {W : WX} {e : Expr} {fa : EF} {pos : Pos}
theorem de_fmt (he : DE X W e fa) : DE X W (.FormattedValue e (-1) none pos) (fFmt fa) := by
  refine imp_pe (pe_fmt he) fun σ H Q ⟨hid, own, ρ, hS, h⟩ => ⟨hid, own, ρ, hS, Post.part h fun x H1 v s1 r1 h1 => ?_⟩
  obtain ⟨k, d⟩ := x
  have rt := r1.rt
  cases d with
  | str a =>
    have h1 : Post X.K hid own H1 (Wc X.mg W σ) (if a.length ≤ 16777216 then .ok (.cl, .str a) else .bad) Q := h1
    split at h1
    · rename_i hz
      exact .inl ⟨S a, rt, by rw [S_len, sizeLine_eq]; exact hz, h1.now rfl⟩
    · exact h1.elim
  | int i =>
    have h1 : Post X.K hid own H1 (Wc X.mg W σ) (if 0 ≤ i ∧ i < 2 ^ 64 then .ok (.cl, .str (TL.numL i.toNat)) else .bad) Q := h1
    split at h1
    · rename_i hz
      exact .inr ⟨i, rt, log_small (by omega), by rw [num_text hz.1]; exact h1.now rfl⟩
    · exact h1.elim
  | _ => exact h1.elim
theorem DJ.pj {es : List Expr} {fs : List EF} (h : DJ X W es fs) : PJ X es (fs.map (tE X.K X.mg W)) := by
  induction h with
  | nil => exact .nil
  | cons h r ih => exact .cons h ih
theorem tjs_of : ∀ (fs : List EF) (acc : List Nat) (σ : L2.St) (H : Hp) (Q : VK), tE X.K X.mg W (eFs fs acc) σ H Q → tJs (fs.map (tE X.K X.mg W)) (S acc) σ H fun out H1 => Q (.str out) H1
  | [], acc, σ, H, Q, ⟨hid, own, ρ, hS, h⟩ => Post.now (K := X.K) h rfl
  | f :: fs, acc, σ, H, Q, ⟨hid, own, ρ, hS, h⟩ => by
    refine ⟨hid, own, ρ, hS, Post.part h fun x H1 v s1 r1 h1 => ?_⟩
    obtain ⟨k, d⟩ := x
    have rt := r1.rt
    cases d with
    | str y =>
      have h1 : Post X.K hid own H1 (Wc X.mg W σ) (if (acc ++ y).length ≤ 16777216 then eFs fs (acc ++ y) ρ else .bad) Q := h1
      split at h1
      · rename_i hz
        refine ⟨S y, rt, by rw [S_app, S_len, sizeLine_eq]; exact hz, ?_⟩
        rw [S_app]
        exact tjs_of fs (acc ++ y) σ H1 Q ⟨hid, own, ρ, hS.mono s1, h1⟩
      · exact h1.elim
    | _ => exact h1.elim
theorem de_fs {v1 v2 : Expr} {rest : List Expr} {fs : List EF} (h : DJ X W (v1 :: v2 :: rest) fs) : DE X W (.JoinedStr (v1 :: v2 :: rest) pos) (eFs fs []) :=
  imp_pe (pe_joined h.pj) fun σ H Q q => tjs_of fs [] σ H Q q
end

/-! ### a def's promise, its calls -/
mutual
def noL : D → Bool
  | .tup xs => noLs xs
  | .lst _ => false
  | .rol _ => false
  | _ => true
def noLs : List D → Bool
  | [] => true
  | x :: xs => noL x && noLs xs
end
/-- what comes back holds no list that was handed in -/
def noLE : Ev → Bool
  | (.fr, .lst ds) => noLs ds
  | (_, d) => noL d
abbrev FD := List D → R Ev
def spD (K : PySem.W.Frag) (mg : Str → Option Value) (n : Nat) (f : FD) : Sp := fun vs H Q E => ∃ hid ds, (∀ b, hid b → H b ≠ none) ∧ RpL K (hd H hid) ds vs ∧ ds.length = n ∧ Post K hid noOwn H (fun c H' => ∀ C, mg c = some (.ref C) → E (.ref C) none H') (f ds) Q
def pkL : Ev → Bool
  | (.pk, d) => isL d
  | _ => false
def eCall (f : FD) (n : Nat) (fs : AF) : EF := fun ρ => (fs ρ).bind fun es => if es.length = n then (if es.any pkL = true then (f (es.map (·.2))).bind (fun r => if noLE r = true then .ok r else .bad) else f (es.map (·.2))) else .bad
theorem pkL_ok {e : Ev} (h : pkL e = false) : okE e = true := by
  obtain ⟨k, d⟩ := e
  cases k with
  | pk => exact (by simpa [pkL, okE] using h)
  | cl => rfl
  | fr => rfl
mutual
theorem noL_rp {K : PySem.W.Frag} {H : Hp} {P P' : Addr → Prop} (h : ∀ b, P' b → ¬ P b → ∃ xs, H b = some (.lst xs)) : ∀ (d : D) (v : V), noL d = true → Rp K (hd H P) d v → Rp K (hd H P') d v
  | .non, _, _, r => r
  | .bl _, _, _, r => r
  | .int _, _, _, r => r
  | .str _, _, _, r => r
  | .tup xs, _, n, ⟨a, vs, h1, h2, h3⟩ => by
    refine ⟨a, vs, h1, ?_, noLs_rp h xs vs n h3⟩
    have go : ∀ o : HO, hd H P a = some o → (∀ xs, o ≠ .lst xs) → hd H P' a = some o := fun o e no => by
      obtain ⟨e1, e2⟩ := hd_some.mp e
      refine hd_some.mpr ⟨fun z => ?_, e2⟩
      obtain ⟨xs, e3⟩ := h a z e1
      rw [e2] at e3
      exact no xs (Option.some.inj e3)
    rcases h2 with (h2 | ⟨o, h2⟩) | h2
    · exact .inl (.inl (go _ h2 fun _ z => nomatch z))
    · exact .inl (.inr ⟨o, go _ h2 fun _ z => nomatch z⟩)
    · exact .inr h2
  | .lst _, _, n, _ => absurd (show false = true from n) Bool.false_ne_true
  | .rol _, _, n, _ => absurd (show false = true from n) Bool.false_ne_true
theorem noLs_rp {K : PySem.W.Frag} {H : Hp} {P P' : Addr → Prop} (h : ∀ b, P' b → ¬ P b → ∃ xs, H b = some (.lst xs)) : ∀ (ds : List D) (vs : List V), noLs ds = true → RpL K (hd H P) ds vs → RpL K (hd H P') ds vs
  | [], _, _, r => r
  | d :: ds, _, n, ⟨v, r, h1, h2, h3⟩ => by
    have n : (noL d && noLs ds) = true := n
    rw [Bool.and_eq_true] at n
    exact ⟨v, r, h1, noL_rp h d v n.1 h2, noLs_rp h ds r n.2 h3⟩
end
theorem RVs.rp {K : PySem.W.Frag} {hid : Addr → Prop} {own : Own} {H H' : Hp} : ∀ {es : List Ev} {vs : List V}, RVs K hid own H H' es vs → RpL K (hd H' hid) (es.map (·.2)) vs
  | [], _, h => h
  | _ :: es, _, ⟨v, r, e, a, b⟩ => ⟨v, r, e, a.rt.rp, RVs.rp b⟩
theorem ob_assoc {hid : Addr → Prop} {own : Own} {b : Addr} : ob (ob hid own) noOwn b ↔ ob hid own b := ob_no
section
variable {X : Cx} {W : WX} {k : Nat} {f : Addr} {fd : FuncData} {ps : List Str} {x : Str} {p pos : Pos} {e : Expr} {es : List Expr} {fs : AF} {F : FD} {n : Nat}
theorem post_ob {K : PySem.W.Frag} {hid : Addr → Prop} {own : Own} {H : Hp} {Wx Wx' : Str → Hp → Prop} {r : R Ev} {Q : VK} (hw : ∀ c H', Wx c H' → Wx' c H') (h : Post K hid own H Wx r Q) : Post K (ob hid own) noOwn H Wx' r Q := by
  cases r with
  | bad => exact h
  | exc c => exact fun H' s => hw c H' (h H' s)
  | ok e =>
    intro H' v s q
    refine h H' v s ?_
    obtain ⟨k, d⟩ := e
    cases k with
    | cl => exact Rp.mono (hd_mono fun b o e n => ⟨e, fun z => n (ob_no.mpr z)⟩) _ _ q
    | fr =>
      obtain ⟨a, e1, e2, e3, m⟩ := q
      exact ⟨a, e1, e2, fun z => e3 (ob_no.mpr z), m.mono (hd_mono fun b o e n => ⟨e, fun z => n (z.elim (fun z => .inl (ob_no.mpr z)) .inr)⟩)⟩
    | pk =>
      cases d with
      | lst ds =>
        obtain ⟨a, vs, e1, e2, e3⟩ := q
        exact ⟨a, vs, e1, hd_ob_hid _ _ e2, RpL.mono (hd_mono fun b o e n => ⟨e, fun z => n (ob_no.mpr z)⟩) _ _ e3⟩
      | non => exact q
      | bl _ => exact q
      | int _ => exact q
      | str _ => exact q
      | tup _ => exact Rp.mono (hd_mono fun b o e n => ⟨e, fun z => n (ob_no.mpr z)⟩) _ _ q
      | rol _ => exact Rp.mono (hd_mono fun b o e n => ⟨e, fun z => n (ob_no.mpr z)⟩) _ _ q
theorem de_call (G : FnOk X.prog X.w X.K X.mg X.base (L2.CX X.prog X.w) k f fd ps (spD X.K X.mg n F)) (hr : Room k X.A) (hg : Gl X x) (hm : X.mg x = some (.ref f)) (hk : PySem.W.keepIn X.K (.ref f) = true) (hb : Binds X.K fd ps []) (tk : Takes X W)
    (ha : DA X W (e :: es) fs) (hdb : (x == ("__debug__" : Str)) = false := by decide) (he : starEach (e :: es) X.env = (false, eval e X.env) :: starEach es X.env := by rfl) (hpl : (backTo pos (starEach es X.env)).any (·.1) = false := by rfl) :
    DE X W (.Call (.Name x p) (e :: es) [] pos) (eCall F n fs) := by
  refine imp_pe (pe_callS G hr hg hm hk hb (fun σ => passAt tk σ) ha hdb he hpl) fun σ H Q ⟨hid, own, ρ, hS, h⟩ => ⟨hid, own, ρ, hS, ?_⟩
  unfold eCall at h
  cases q : fs ρ with
  | exc c => rw [q] at h; exact h
  | bad => rw [q] at h; exact h
  | ok ys =>
    rw [q] at h
    intro H1 vs s1 d1 r1
    have S1 := hS.mono s1
    have h : Post X.K hid own H (Wc X.mg W σ) (if ys.length = n then (if ys.any pkL = true then (F (ys.map (·.2))).bind (fun r => if noLE r = true then .ok r else .bad) else F (ys.map (·.2))) else .bad) Q := h
    split at h
    · rename_i hn
      split at h
      · refine ⟨hid, ys.map (·.2), fun b z => d1 b (.inl z), r1.rp, by rw [List.length_map]; exact hn, ?_⟩
        have h := Post.mono s1 h
        cases e1 : F (ys.map (·.2)) with
        | bad => rw [e1] at h; exact h
        | exc c => rw [e1] at h; exact h
        | ok r =>
          rw [e1] at h
          intro H2 v s2 r2
          have h : Post X.K hid own H1 (Wc X.mg W σ) (if noLE r = true then .ok r else .bad) Q := h
          split at h
          · rename_i nl
            refine h H2 v s2 ?_
            have oL : ∀ b, ob hid own b → ¬ ob hid noOwn b → ∃ xs, H2 b = some (.lst xs) := fun b z nz => by
              rcases z with z | ⟨i, z⟩
              · exact absurd (ob_no.mpr z) nz
              · obtain ⟨_, ⟨xs, z2⟩, _⟩ := S1.oh i b z
                exact ⟨xs, s2 _ _ z2⟩
            obtain ⟨k, d⟩ := r
            cases k with
            | cl => exact noL_rp oL d v nl r2
            | pk => exact RT.of_cl (noL_rp oL d v nl (RT.cl (by cases d <;> first | rfl | exact absurd (show false = true from nl) Bool.false_ne_true) r2))
            | fr =>
              obtain ⟨a, w1, w2, w3, m⟩ := r2
              have na : ¬ ob hid own a := fun z => d1 a z w2
              refine ⟨a, w1, w2, na, ?_⟩
              cases d with
              | lst ds =>
                obtain ⟨us, m1, m2⟩ := m
                refine ⟨us, m1, noLs_rp (fun b z nz => ?_) ds us nl m2⟩
                rcases z with z | z
                · exact oL b z fun w => nz (.inl w)
                · exact absurd (.inr z) nz
              | _ => exact m.elim
          · exact h.elim
      · rename_i hp
        have ok : ys.all okE = true := by
          rw [List.all_eq_true]
          intro y hy
          have hp' : ys.any pkL = false := by simpa using hp
          rw [List.any_eq_false] at hp'
          exact pkL_ok (by simpa using hp' y hy)
        exact ⟨ob hid own, ys.map (·.2), d1, r1.clean ok, by rw [List.length_map]; exact hn, post_ob (fun c H' z => z) (Post.mono s1 h)⟩
    · exact h.elim
end
end PL
set_option Elab.async false
set_option linter.all false
set_option maxRecDepth 100000
set_option maxHeartbeats 4000000
/-! PL5: what is walked, targets, list comprehensions. -/
namespace PL
open PySem PySem.Spec L2

/-- the walk J gives ds, as long as what is seen in Hl stands; the items are seen in Hc -/
def ItOk (K : PySem.W.Frag) (J : It) (ds : List D) (Hl Hc : Hp) : Prop := ∀ (i : Nat) (H : Hp) (P : Addr → Prop), Same Hl H → Same Hc (hd H P) → (∀ b, P b → H b ≠ none) →
  (i = ds.length → J.stop i H) ∧ ∀ d, ds[i]? = some d → J.go i H ∧ ∀ x H', J.yld i H x H' → Same H H' ∧ Rp K (hd H' P) d x
abbrev IF := Ro → R (Bool × List D)
/-- where the walked thing stands -/
noncomputable def lvl (hid : Addr → Prop) (own : Own) (H : Hp) : Bool → Hp
  | true => hd H hid
  | false => hd H (ob hid own)
def PostI (K : PySem.W.Frag) (hid : Addr → Prop) (own : Own) (H : Hp) (Wx : Str → Hp → Prop) (r : R (Bool × List D)) (Rr : It → Hp → Prop) : Prop :=
  match r with
  | .ok p => ∀ H1 J, Same H H1 → ItOk K J p.2 (lvl hid own H1 p.1) (hd H1 (ob hid own)) → Rr J H1
  | .exc c => ∀ H', Same H H' → Wx c H'
  | .bad => False
def tI (K : PySem.W.Frag) (mg : Str → Option Value) (W : WX) (f : IF) : TI := fun σ H R => ∃ hid own ρ, SR K hid own H ρ σ ∧ PostI K hid own H (Wc mg W σ) (f ρ) R
abbrev DI (X : Cx) (W : WX) (tg e : Expr) (f : IF) : Prop := PI X tg e (tI X.K X.mg W f)
theorem imp_pi {X : Cx} {tg e : Expr} {t t' : TI} (h : PI X tg e t) (k : ∀ σ H Q, t' σ H Q → t σ H Q) : PI X tg e t' := ⟨fun pins s σ H R I q => h.run pins s σ H R I (k _ _ _ q)⟩
theorem or_pi {X : Cx} {tg e : Expr} {t t' : TI} (h : PI X tg e t) (h' : PI X tg e t') : PI X tg e (fun σ H R => t σ H R ∨ t' σ H R) := ⟨fun pins s σ H R I q => q.elim (h.run pins s σ H R I) (h'.run pins s σ H R I)⟩
theorem PostI.part {K : PySem.W.Frag} {hid : Addr → Prop} {own : Own} {H : Hp} {Wx : Str → Hp → Prop} {r : R Ev} {g : Ev → R (Bool × List D)} {Rr : It → Hp → Prop} {T : VK} (h : PostI K hid own H Wx (r.bind g) Rr)
    (k : ∀ e H1 v, Same H H1 → RV K hid own H H1 e.1 e.2 v → PostI K hid own H1 Wx (g e) Rr → T v H1) : Post K hid own H Wx r T := by
  cases r with
  | ok e =>
    intro H1 v s q
    refine k e H1 v s q ?_
    have h : PostI K hid own H Wx (g e) Rr := h
    cases e2 : g e with
    | ok p => rw [e2] at h; exact fun H2 J s2 i => h H2 J (s.trans s2) i
    | exc c => rw [e2] at h; exact fun H2 s2 => h H2 (s.trans s2)
    | bad => rw [e2] at h; exact h
  | exc c => exact h
  | bad => exact h
section
variable {K : PySem.W.Frag}
theorem it_list {a : Addr} {ds : List D} {vs : List V} {Hl Hc : Hp} (hl : SqL K Hl a vs) (hc : RpL K Hc ds vs) (uniq : ∀ (H : Hp) (xs : List V), Same Hl H → SqL K H a xs → xs = vs) : ItOk K (Itl K a) ds Hl Hc := fun i H P sl sc dom =>
  ⟨fun e => ⟨vs, sl.seq hl, by rw [hc.len, e]; exact Nat.le_refl _⟩, fun d hd => by
    obtain ⟨v, e1, e2⟩ := hc.get hd
    refine ⟨⟨vs, v, sl.seq hl, e1⟩, fun x H' ⟨eH, y⟩ => ?_⟩
    subst eH
    have e3 := y vs (sl.seq hl)
    rw [e1] at e3
    cases e3
    exact ⟨Same.refl _, Rp.mono sc _ _ e2⟩⟩
end
theorem Rd.uniq {H : Hp} {a : Addr} {xs ys : List V} (h : Rd H a (.lst xs)) (h' : Rd H a (.lst ys)) : xs = ys := by
  rcases h with h | ⟨o, h⟩ <;> rcases h' with h' | ⟨o', h'⟩ <;> rw [h] at h' <;> cases h' <;> rfl
def iVal (fa : EF) : IF := fun ρ => (fa ρ).bind fun x => match x.2 with
  | .lst ds => .ok (decide (x.1 = .pk), ds)
  | .rol ds => .ok (false, ds)
  | .tup ds => .ok (false, ds)
  | .str z => .ok (false, z.map fun c => D.str [c])
  | _ => .bad
theorem it_list2 {K : PySem.W.Frag} {a : Addr} {ds : List D} {vs : List V} {Hl Hc : Hp} (hl : SqL K Hl a vs) (hc : RpL K Hc ds vs) : ItOk K (Itl K a) ds Hl Hc := fun i H P sl sc dom =>
  ⟨fun e => ⟨vs, sl.seq hl, by rw [hc.len, e]; exact Nat.le_refl _⟩, fun d hd => by
    obtain ⟨v, e1, e2⟩ := hc.get hd
    refine ⟨⟨vs, v, sl.seq hl, e1⟩, fun x H' ⟨eH, y⟩ => ?_⟩
    subst eH
    have e3 := y vs (sl.seq hl)
    rw [e1] at e3
    cases e3
    exact ⟨Same.refl _, Rp.mono sc _ _ e2⟩⟩
theorem it_tup2 {K : PySem.W.Frag} {a : Addr} {ds : List D} {vs : List V} {Hl Hc : Hp} (hl : SqT K Hl a vs) (hc : RpL K Hc ds vs) : ItOk K (Itt K a) ds Hl Hc := fun i H P sl sc dom =>
  ⟨fun e => ⟨vs, same_seqT sl hl, by rw [hc.len, e]; exact Nat.le_refl _⟩, fun d hd => by
    obtain ⟨v, e1, e2⟩ := hc.get hd
    refine ⟨⟨vs, v, same_seqT sl hl, e1⟩, fun x H' ⟨eH, y⟩ => ?_⟩
    subst eH
    have e3 := y vs (same_seqT sl hl)
    rw [e1] at e3
    cases e3
    exact ⟨Same.refl _, Rp.mono sc _ _ e2⟩⟩
theorem it_str {K : PySem.W.Frag} {z : List Nat} {Hl Hc : Hp} : ItOk K (Its (S z)) (z.map fun c => D.str [c]) Hl Hc := fun i H P sl sc dom =>
  ⟨fun e => by
    show (S z).cps.size ≤ i
    rw [e, List.length_map]
    simp [S], fun d hd => by
    have hi : i < z.length := by have := (List.getElem?_eq_some_iff.mp hd).1; rwa [List.length_map] at this
    refine ⟨by show i < (S z).cps.size; simpa [S] using hi, fun x H' ⟨eH, c, e1, e2⟩ => ?_⟩
    subst eH
    refine ⟨Same.refl _, ?_⟩
    rw [List.getElem?_map] at hd
    have e3 : z[i]? = some c := by simpa [S] using e1
    rw [e3] at hd
    cases hd
    exact e2⟩
theorem it_range {K : PySem.W.Frag} {lo : Int} {n : Nat} {Hl Hc : Hp} : ItOk K (Itr lo n) ((List.range n).map fun k : Nat => D.int (lo + k)) Hl Hc := fun i H P sl sc dom =>
  ⟨fun e => by
    show n ≤ i
    rw [e, List.length_map, List.length_range]; exact Nat.le_refl _, fun d hd => by
    have hi : i < n := by have := (List.getElem?_eq_some_iff.mp hd).1; rwa [List.length_map, List.length_range] at this
    refine ⟨hi, fun x H' ⟨eH, ex⟩ => ?_⟩
    subst eH
    refine ⟨Same.refl _, ?_⟩
    rw [List.getElem?_map, List.getElem?_range hi] at hd
    cases hd
    exact ex⟩
/-- the pairs of enumerate -/
def enumD (ds : List D) : List D := ds.zipIdx.map fun p => D.tup [.int (p.2 : Nat), p.1]
theorem enumD_get {ds : List D} {i : Nat} {d : D} (h : (enumD ds)[i]? = some d) : ∃ y, ds[i]? = some y ∧ d = D.tup [.int (i : Nat), y] := by
  unfold enumD at h
  rw [List.getElem?_map, List.getElem?_zipIdx] at h
  cases e : ds[i]? with
  | none => rw [e] at h; cases h
  | some y =>
    rw [e] at h
    refine ⟨y, rfl, ?_⟩
    have := Option.some.inj h
    rw [← this]
    simp
theorem enumD_len (ds : List D) : (enumD ds).length = ds.length := by simp [enumD]
theorem pair_rp {K : PySem.W.Frag} {H : Hp} {P : Addr → Prop} {T : Addr} {i : Int} {y : D} {x : V} (nT : H T = none) (dom : ∀ b, P b → H b ≠ none) (r : Rp K (hd H P) y x) : Rp K (hd (upd H T (.tup [.int i, x])) P) (.tup [.int i, y]) (.ref T) :=
  ⟨T, _, rfl, .inl (.inl (hd_some.mpr ⟨no_dom dom nT, upd_same⟩)), _, _, rfl, rfl, _, _, rfl, Rp.mono (hd_same (sameUpd nT)) _ _ r, rfl⟩
theorem it_enum {K : PySem.W.Frag} {a : Addr} {ds : List D} {vs : List V} {Hl Hc : Hp} (hl : SqL K Hl a vs) (hc : RpL K Hc ds vs) : ItOk K (Ite K a) (enumD ds) Hl Hc := fun i H P sl sc dom =>
  ⟨fun e => ⟨vs, sl.seq hl, by rw [hc.len, e, enumD_len]; exact Nat.le_refl _⟩, fun d hd => by
    obtain ⟨y, ey, ed⟩ := enumD_get hd
    subst ed
    obtain ⟨v, e1, e2⟩ := hc.get ey
    refine ⟨⟨vs, v, sl.seq hl, e1⟩, fun x H' ⟨T, x', ex, nT, eH, q⟩ => ?_⟩
    subst ex eH
    have e3 := q vs (sl.seq hl)
    rw [e1] at e3
    cases e3
    exact ⟨sameUpd nT, pair_rp nT dom (Rp.mono sc _ _ e2)⟩⟩
/-- enumerate of a text -/
def ItS (z : Str) : It := ⟨fun i _ => i < z.cps.size, fun i H v H' => ∃ T c, v = .ref T ∧ H T = none ∧ H' = upd H T (.tup [.int (i : Nat), .str ⟨#[c]⟩]) ∧ z.cps[i]? = some c, fun i _ => i = z.cps.size⟩
theorem it_enumS {K : PySem.W.Frag} {z : List Nat} {Hl Hc : Hp} : ItOk K (ItS (S z)) (enumD (z.map fun c => D.str [c])) Hl Hc := fun i H P sl sc dom =>
  ⟨fun e => by
    show i = (S z).cps.size
    rw [e, enumD_len, List.length_map]
    simp [S], fun d hd => by
    obtain ⟨y, ey, ed⟩ := enumD_get hd
    subst ed
    have hi : i < z.length := by have := (List.getElem?_eq_some_iff.mp ey).1; rwa [List.length_map] at this
    refine ⟨by show i < (S z).cps.size; simpa [S] using hi, fun x H' ⟨T, c, ex, nT, eH, ec⟩ => ?_⟩
    subst ex eH
    rw [List.getElem?_map] at ey
    have e3 : z[i]? = some c := by simpa [S] using ec
    rw [e3] at ey
    cases ey
    exact ⟨sameUpd nT, pair_rp nT dom rfl⟩⟩
theorem turn_enumS {P : Program} {w : World} {K : PySem.W.Frag} {elts : List Expr} {kk : Nat} {tpos : Pos} (e it : Addr) (z : Str) (t : Tok) :
    Turn P w K (.Tuple elts kk tpos) (ItS z) [e, it] e (fun i h => (∃ old, IsEnum h e it ((i : Nat) : Int) old) ∧ h.IsStrIter it (strIterType z) z t i ∧ e ≠ it) where
  mem := List.mem_cons_self
  obj := by
    rintro i h ⟨⟨old, he⟩, ⟨o, ho, hc, hdt⟩, _⟩ b hb
    rcases List.mem_cons.mp hb with q | q
    · rw [q]; exact ⟨_, he, fun v r => nomatch r⟩
    · rw [List.mem_singleton.mp q]; exact ⟨o, ho, fun v r => by rw [hdt] at r; cases r⟩
  keep := by
    rintro i h h' ⟨⟨old, he⟩, ⟨o, ho, r⟩, hne⟩ k
    exact ⟨⟨old, k e (by simp) _ he⟩, ⟨o, k it (by simp) _ ho, r⟩, hne⟩
  item := by
    rintro X rfl rfl rfl hc i pins s σ H E I hf ⟨⟨old, he⟩, hit, hne⟩ hg
    have Dr := Draws.text (prog := X.prog) (w := X.w) (A := X.A.in1) (show X.A.in1.handled = none from I.ok.hd hc) it z t
    have le : e < s.heap.objs.size := Heap.lt_size he
    have li : it < s.heap.objs.size := by obtain ⟨_, q, _⟩ := hit; exact Heap.lt_size q
    refine wpAny_pyNext_enum_itemD Dr he hit hg hne (by simpa using hne) fun x h' tk hx ho hit' hT hsz hk => ?_
    obtain ⟨c, u, hcx, rfl⟩ := hx
    refine ⟨_, rfl, wpAny_letOwnedTupleGo_enum (s := { s with heap := h', toks := tk + 1 }) ho fun h'' he' sb => ?_⟩
    have hT2 := (sb.2 _ (Nat.ne_of_gt le)).trans hT
    have new : ObjOk X.prog X.w (upd H s.heap.objs.size (.tup [.int (i : Nat), .str ⟨#[c]⟩])) h'' s.heap.objs.size (.tup [.int (i : Nat), .str ⟨#[c]⟩]) :=
      ⟨by rw [sizeLine_eq]; exact (by decide : 2 ≤ 16777216), _, .cons ⟨_, rfl⟩ (.cons ⟨_, rfl⟩ .nil), ⟨_, hT2, rfl, _, rfl⟩⟩
    have I1 := I.turnedNew (t' := tk + 1) (ch := [e, it]) (fun b o hb q => (sb.2 b fun r => hb (by simp [r])).trans (hk b o (fun r => hb (by simp [r])) (fun r => hb (by simp [r])) q)) hf (Nat.le_refl _) new
    refine ⟨.ref s.heap.objs.size, _, I1, rfl, ⟨_, c, rfl, I.hok.fresh (Nat.le_refl _), rfl, hcx⟩, ⟨⟨_, by rw [Int.natCast_succ]; exact he'⟩, ?_, hne⟩, fun b hb => ?_⟩
    · obtain ⟨o, q, r⟩ := hit'
      exact ⟨o, (sb.2 it (Ne.symm hne)).trans q, r⟩
    · rw [upd_ne (Nat.ne_of_lt ?_)]
      · exact (hf b hb).1
      · rcases List.mem_cons.mp hb with q | q
        · rw [q]; exact le
        · rw [List.mem_singleton.mp q]; exact li
  done := by
    rintro X rfl rfl rfl hc i pins s σ H E I hf ⟨⟨old, he⟩, hit, hne⟩ hg
    have Dr := Draws.text (prog := X.prog) (w := X.w) (A := X.A.in1) (show X.A.in1.handled = none from I.ok.hd hc) it z t
    obtain ⟨f0, f1, f2, f3, f4, f5⟩ := hf it (by simp)
    have hg : i = z.cps.size := hg
    rw [hg] at hit
    exact wpAny_pyNext_enum_endD Dr he hit fun h' eb => ⟨rfl, I.turned (t' := s.toks) (fun b o hb q => eb b o hb q) f0 f1 f3 f4 f5⟩
  self := by
    rintro A i s Q E ⟨⟨_, he⟩, _⟩ h
    exact wpAny_pyIter_enum he h
def iEnS (ta : TA) : TI := fun σ H R => ta σ H fun vs H1 => ∃ z, vs = [.str z] ∧ R (ItS z) H1
theorem pi_enumS {X : Cx} {e : Expr} {ta : TA} {p pos tpos : Pos} {elts : List Expr} {kk : Nat} (hg : Gl X "enumerate") (hm : X.mg "enumerate" = none) (ha : PA X [e] ta) (hs : starEach [e] X.env = [(false, eval e X.env)] := by rfl) :
    PI X (.Tuple elts kk tpos) (.Call (.Name "enumerate" p) [e] [] pos) (iEnS ta) := by
  refine ⟨fun pins s σ H R I h => PyProof.Rows.Call_ (ld_blt I hg hm PyProof.Rows.boot_enumerate (PyProof.Rows.callWith_type1 (thn (ha.run pos pins s σ H _ I h) fun us s1 hu => ?_) hs rfl))⟩
  obtain ⟨vs, H1, I1, r1, z, ez, q⟩ := hu
  subst ez
  obtain ⟨u, eu, t, et⟩ := vals1 r1
  subst eu et
  refine call_enumerate_str fun h' he hit hsz hk => wpAny_pyIter_enum he ?_
  have I2 : Inv X pins σ H1 { s1 with heap := h' } := I1.kept (t' := s1.toks) hk
  refine ⟨s1.heap.objs.size + 1, [s1.heap.objs.size + 1, s1.heap.objs.size], _, _, H1, rfl, I2, turn_enumS _ _ z t, ⟨⟨_, he⟩, hit, Nat.succ_ne_self _⟩, fun b hb => ?_, q⟩
  have le : s1.heap.objs.size ≤ b := by
    rcases List.mem_cons.mp hb with r | r
    · rw [r]; exact Nat.le_succ _
    · rw [List.mem_singleton.mp r]; exact Nat.le_refl _
  exact I1.fpOk le (I1.hok.fresh le)
section
variable {X : Cx} {W : WX} {tg e e2 : Expr} {fa fb : EF} {p pos : Pos}
theorem lvl_of {K : PySem.W.Frag} {hid : Addr → Prop} {own : Own} {H H1 : Hp} {k : Kd} {ds : List D} {v : V} (h : RV K hid own H H1 k (.lst ds) v) : ∃ a vs, v = .ref a ∧ lvl hid own H1 (decide (k = .pk)) a = some (.lst vs) ∧ RpL K (hd H1 (ob hid own)) ds vs := by
  cases k with
  | pk => exact h
  | cl => exact h
  | fr =>
    obtain ⟨a, e1, e2, e3, vs, e4, e5⟩ := h
    exact ⟨a, vs, e1, hd_some.mpr ⟨e3, e4⟩, RpL.mono (hd_mono fun b o q n => ⟨q, fun z => n (.inl z)⟩) _ _ e5⟩
theorem di_val (ha : DE X W e fa) : DI X W tg e (iVal fa) := by
  refine imp_pi (or_pi (pi_list ha) (or_pi (pi_tup ha) (pi_str ha))) fun σ H Rr ⟨hid, own, ρ, hS, h⟩ => ?_
  unfold iVal at h
  cases e1 : fa ρ with
  | exc c => rw [e1] at h; exact .inl ⟨hid, own, ρ, hS, by rw [e1]; exact h⟩
  | bad => rw [e1] at h; exact h.elim
  | ok x =>
    rw [e1] at h
    obtain ⟨k, d⟩ := x
    cases d with
    | lst ds =>
      refine .inl ⟨hid, own, ρ, hS, ?_⟩
      rw [e1]
      intro H1 v s1 r1
      obtain ⟨a, vs, q1, q2, q3⟩ := lvl_of r1
      exact ⟨a, q1, ⟨vs, by cases k <;> exact SqL.of (hd_le _ _ q2)⟩, h H1 _ s1 (it_list2 (SqL.of q2) q3)⟩
    | rol ds =>
      refine .inl ⟨hid, own, ρ, hS, ?_⟩
      rw [e1]
      intro H1 v s1 r1
      obtain ⟨a, vs, q1, q2, q3⟩ := r1.rt
      exact ⟨a, q1, ⟨vs, hd_le.seq q2⟩, h H1 _ s1 (it_list2 q2 q3)⟩
    | tup ds =>
      refine .inr (.inl ⟨hid, own, ρ, hS, ?_⟩)
      rw [e1]
      intro H1 v s1 r1
      obtain ⟨a, vs, q1, q2, q3⟩ := r1.rt
      exact ⟨a, q1, ⟨vs, same_seqT hd_le q2⟩, h H1 _ s1 (it_tup2 q2 q3)⟩
    | str z =>
      refine .inr (.inr ⟨hid, own, ρ, hS, ?_⟩)
      rw [e1]
      intro H1 v s1 r1
      exact ⟨S z, r1.rt, h H1 _ s1 it_str⟩
    | _ => exact h.elim
def iRng (fa : EF) : IF := fun ρ => (fa ρ).bind fun x => match x.2 with
  | .int j => if -(2 ^ 62) ≤ j ∧ j < 2 ^ 62 then .ok (false, (List.range j.toNat).map fun k : Nat => D.int (0 + k)) else .bad
  | _ => .bad
theorem di_rng (hg : Gl X "range") (hm : X.mg "range" = none) (ha : DE X W e fa) (hs : starEach [e] X.env = [(false, eval e X.env)] := by rfl) : DI X W tg (.Call (.Name "range" p) [e] [] pos) (iRng fa) := by
  refine imp_pi (pi_range1 hg hm (pa_cons ha pa_nil hs) hs) fun σ H Rr ⟨hid, own, ρ, hS, h⟩ => ⟨hid, own, ρ, hS, PostI.part h fun x H1 v s1 r1 h1 => ?_⟩
  obtain ⟨k, d⟩ := x
  cases d with
  | int j =>
    have h1 : PostI X.K hid own H1 (Wc X.mg W σ) (if -(2 ^ 62) ≤ j ∧ j < 2 ^ 62 then .ok (false, (List.range j.toNat).map fun k : Nat => D.int (0 + k)) else .bad) Rr := h1
    split at h1
    · rename_i c
      exact ⟨j, by rw [show v = _ from r1.rt], c.1, c.2, h1 H1 _ (Same.refl _) it_range⟩
    · exact h1.elim
  | _ => exact h1.elim
def iRng2 (fa fb : EF) : IF := fun ρ => (fa ρ).bind fun x => (fb ρ).bind fun y => match x.2, y.2 with
  | .int i, .int j => if (-(2 ^ 62) ≤ i ∧ i < 2 ^ 62) ∧ -(2 ^ 62) ≤ j ∧ j < 2 ^ 62 then .ok (false, (List.range (j - i).toNat).map fun k : Nat => D.int (i + k)) else .bad
  | _, _ => .bad
theorem di_rng2 (hg : Gl X "range") (hm : X.mg "range" = none) (ha : DE X W e fa) (hb : DE X W e2 fb) (hs : starEach [e, e2] X.env = [(false, eval e X.env), (false, eval e2 X.env)] := by rfl) (hs2 : starEach [e2] X.env = [(false, eval e2 X.env)] := by rfl) : DI X W tg (.Call (.Name "range" p) [e, e2] [] pos) (iRng2 fa fb) := by
  refine imp_pi (pi_range2 hg hm (pa_cons ha (pa_cons hb pa_nil hs2) (by rw [hs, hs2])) hs hs2) fun σ H Rr ⟨hid, own, ρ, hS, h⟩ => ⟨hid, own, ρ, hS, PostI.part h fun x H1 v s1 r1 h1 => ⟨hid, own, ρ, hS.mono s1, PostI.part h1 fun y H2 u s2 r2 h2 => ?_⟩⟩
  obtain ⟨k, d⟩ := x
  obtain ⟨k', d'⟩ := y
  cases d with
  | int i =>
    cases d' with
    | int j =>
      have h2 : PostI X.K hid own H2 (Wc X.mg W σ) (if (-(2 ^ 62) ≤ i ∧ i < 2 ^ 62) ∧ -(2 ^ 62) ≤ j ∧ j < 2 ^ 62 then .ok (false, (List.range (j - i).toNat).map fun k : Nat => D.int (i + k)) else .bad) Rr := h2
      split at h2
      · rename_i c
        exact ⟨i, j, by rw [show v = _ from r1.rt, show u = _ from r2.rt], ⟨c.1.1, c.1.2, c.2.1, c.2.2⟩, h2 H2 _ (Same.refl _) it_range⟩
      · exact h2.elim
    | _ => exact h2.elim
  | _ => cases d' <;> exact h2.elim
def iEnum' (fa : EF) : IF := fun ρ => (fa ρ).bind fun x => match x.2 with
  | .lst ds => .ok (decide (x.1 = .pk), enumD ds)
  | .str z => .ok (false, enumD (z.map fun c => D.str [c]))
  | _ => .bad
theorem di_enum {elts : List Expr} {kk : Nat} {tpos : Pos} (hg : Gl X "enumerate") (hm : X.mg "enumerate" = none) (ha : DE X W e fa) (hs : starEach [e] X.env = [(false, eval e X.env)] := by rfl) : DI X W (.Tuple elts kk tpos) (.Call (.Name "enumerate" p) [e] [] pos) (iEnum' fa) := by
  refine imp_pi (or_pi (pi_enum hg hm (pa_cons ha pa_nil hs) hs) (pi_enumS hg hm (pa_cons ha pa_nil hs) hs)) fun σ H Rr ⟨hid, own, ρ, hS, h⟩ => ?_
  unfold iEnum' at h
  cases e1 : fa ρ with
  | exc c => rw [e1] at h; exact .inl ⟨hid, own, ρ, hS, by rw [e1]; exact h⟩
  | bad => rw [e1] at h; exact h.elim
  | ok x =>
    rw [e1] at h
    obtain ⟨k, d⟩ := x
    cases d with
    | lst ds =>
      refine .inl ⟨hid, own, ρ, hS, ?_⟩
      rw [e1]
      intro H1 v s1 r1
      obtain ⟨a, vs, q1, q2, q3⟩ := lvl_of r1
      exact ⟨a, vs, by rw [q1], by cases k <;> exact SqL.of (hd_le _ _ q2), h H1 _ s1 (it_enum (SqL.of q2) q3)⟩
    | str z =>
      refine .inr ⟨hid, own, ρ, hS, ?_⟩
      rw [e1]
      intro H1 v s1 r1
      exact ⟨S z, by rw [show v = _ from r1.rt], h H1 _ s1 it_enumS⟩
    | _ => exact h.elim
end

/-! ### targets -/
abbrev GF := D → Ro → Option Ro
/-- slots outside of ss stay -/
def tG (K : PySem.W.Frag) (ss : List Nat) (g : GF) : TG := fun v σ H Q => ∃ hid own ρ d, SR K hid own H ρ σ ∧ Rp K (hd H (ob hid own)) d v ∧ match g d ρ with
  | some ρ' => ∀ own' σ', SR K hid own' H ρ' σ' → (∀ i a, own' i = some a → own i = some a) → (∀ i a, own i = some a → i ∉ ss → own' i = some a) → (∀ j, j ∉ ss → σ'[j]? = σ[j]?) → σ'.length = σ.length → Q σ' H
  | none => False
def tGs (K : PySem.W.Frag) (ss : List Nat) (g : List D → Ro → Option Ro) : TGs := fun vs σ H Q => ∃ hid own ρ ds, SR K hid own H ρ σ ∧ RpL K (hd H (ob hid own)) ds vs ∧ match g ds ρ with
  | some ρ' => ∀ own' σ', SR K hid own' H ρ' σ' → (∀ i a, own' i = some a → own i = some a) → (∀ i a, own i = some a → i ∉ ss → own' i = some a) → (∀ j, j ∉ ss → σ'[j]? = σ[j]?) → σ'.length = σ.length → Q σ' H
  | none => False
abbrev DG (X : Cx) (tg : Expr) (ss : List Nat) (g : GF) : Prop := PG X tg (tG X.K ss g)
abbrev DGs (X : Cx) (tg : List Expr) (ss : List Nat) (g : List D → Ro → Option Ro) : Prop := PGs X tg (tGs X.K ss g)
theorem imp_pg {X : Cx} {tg : Expr} {t t' : TG} (h : PG X tg t) (k : ∀ v σ H Q, t' v σ H Q → t v σ H Q) : PG X tg t' := ⟨fun pins s σ H v u Q I r q => h.run pins s σ H v u Q I r (k _ _ _ _ q)⟩
theorem imp_pgs {X : Cx} {tg : List Expr} {t t' : TGs} (h : PGs X tg t) (k : ∀ v σ H Q, t' v σ H Q → t v σ H Q) : PGs X tg t' := ⟨fun pins s σ H v u Q I r q => h.run pins s σ H v u Q I r (k _ _ _ _ q)⟩
def gNm (i : Nat) : GF := fun d ρ => if i < ρ.length then some (ρ.set i (some (false, d))) else none
open Classical in
noncomputable def unown (own : Own) (i : Nat) : Own := fun j => if j = i then none else own j
theorem unown_le {own : Own} {i j : Nat} {a : Addr} (h : unown own i j = some a) : own j = some a ∧ j ≠ i := by
  unfold unown at h
  by_cases c : j = i
  · rw [if_pos c] at h; cases h
  · rw [if_neg c] at h; exact ⟨h, c⟩
theorem unown_ne {own : Own} {i j : Nat} (h : j ≠ i) : unown own i j = own j := by unfold unown; rw [if_neg h]
theorem ob_unown {hid : Addr → Prop} {own : Own} {i : Nat} {b : Addr} (h : ob hid (unown own i) b) : ob hid own b := h.elim .inl fun ⟨j, e⟩ => .inr ⟨j, (unown_le e).1⟩
theorem SR.setV {K : PySem.W.Frag} {hid : Addr → Prop} {own : Own} {H : Hp} {ρ : Ro} {σ : L2.St} (h : SR K hid own H ρ σ) {i : Nat} {d : D} {v : V} (r : Rp K (hd H (ob hid own)) d v) : SR K hid (unown own i) H (ρ.set i (some (false, d))) (σ.set i (some v)) := by
  have mono : Same (hd H (ob hid own)) (hd H (ob hid (unown own i))) := hd_mono fun b o e n => ⟨e, fun z => n (ob_unown z)⟩
  refine ⟨by rw [List.length_set, List.length_set]; exact h.len, fun j d' e => ?_, fun j d' e => ?_, fun j k a e1 e2 => h.inj j k a (unown_le e1).1 (unown_le e2).1, fun j a e => ?_, h.hin⟩
  · by_cases c : i = j
    · subst c
      have hl : i < ρ.length := by
        have := (List.getElem?_eq_some_iff.mp e).1
        rwa [List.length_set] at this
      rw [List.getElem?_set_self hl] at e
      cases e
      exact ⟨v, by rw [List.getElem?_set_self (by rw [← h.len]; exact hl)], Rp.mono mono _ _ r⟩
    · rw [List.getElem?_set_ne c] at e ⊢
      obtain ⟨u, e1, e2⟩ := h.val j d' e
      exact ⟨u, e1, Rp.mono mono _ _ e2⟩
  · by_cases c : i = j
    · subst c
      have hl : i < ρ.length := by
        have := (List.getElem?_eq_some_iff.mp e).1
        rwa [List.length_set] at this
      rw [List.getElem?_set_self hl] at e
      cases e
    · rw [List.getElem?_set_ne c] at e ⊢
      obtain ⟨a, e1, e2, e3⟩ := h.ow j d' e
      exact ⟨a, by rw [unown_ne (Ne.symm c)]; exact e1, e2, e3.mono mono⟩
  · obtain ⟨e1, c⟩ := unown_le e
    obtain ⟨h1, h2, d', h3⟩ := h.oh j a e1
    exact ⟨h1, h2, d', by rw [List.getElem?_set_ne (Ne.symm c)]; exact h3⟩
section
variable {X : Cx} {pos : Pos}
theorem dg_name {x : Str} (i : Nat) (hN : X.N.Nodup) (hi : X.N[i]? = some x) (hx : Loc X.env.scope x) (hf : X.fn x = true ∨ X.env.scope.names.lookup x = some .local) : DG X (.Name x pos) [i] (gNm i) := by
  refine imp_pg (pg_name hN hi hx hf) fun v σ H Q ⟨hid, own, ρ, d, hS, r, h⟩ => ?_
  unfold gNm at h
  by_cases c : i < ρ.length
  · rw [if_pos c] at h
    refine h (unown own i) _ (hS.setV r) (fun j a e => (unown_le e).1) (fun j a e hj => by rw [unown_ne (fun z => hj (by simp [z]))]; exact e) (fun j hj => ?_) (by rw [List.length_set])
    rw [List.getElem?_set_ne (fun z => hj (by simp [z]))]
  · rw [if_neg c] at h; exact h.elim
def gsNil : List D → Ro → Option Ro := fun ds ρ => match ds with | [] => some ρ | _ => none
def gsCons (g : GF) (gs : List D → Ro → Option Ro) : List D → Ro → Option Ro := fun ds ρ => match ds with
  | d :: r => (g d ρ).bind fun ρ' => gs r ρ'
  | [] => none
theorem dgs_nil : DGs X [] [] gsNil := by
  refine imp_pgs pgs_nil fun vs σ H Q ⟨hid, own, ρ, ds, hS, r, h⟩ => ?_
  cases ds with
  | nil => exact ⟨r, h own σ hS (fun _ _ e => e) (fun _ _ e _ => e) (fun _ _ => rfl) rfl⟩
  | cons d ds => exact h.elim
theorem dgs_cons {e : Expr} {es : List Expr} {ss ss' : List Nat} {g : GF} {gs : List D → Ro → Option Ro} (h1 : DG X e ss g) (h2 : DGs X es ss' gs) (hs : (assignEach (e :: es) X.env).map (·.2) = assign e X.env :: (assignEach es X.env).map (·.2) := by rfl) : DGs X (e :: es) (ss ++ ss') (gsCons g gs) := by
  refine imp_pgs (pgs_cons h1 h2 hs) fun vs σ H Q ⟨hid, own, ρ, ds, hS, r, h⟩ => ?_
  cases ds with
  | nil => exact h.elim
  | cons d ds =>
    obtain ⟨v, vr, e1, r1, r2⟩ := r
    refine ⟨v, vr, e1, hid, own, ρ, d, hS, r1, ?_⟩
    have h : match (g d ρ).bind (fun ρ' => gs ds ρ') with
      | some ρ' => ∀ own' σ', SR X.K hid own' H ρ' σ' → (∀ i a, own' i = some a → own i = some a) → (∀ i a, own i = some a → i ∉ ss ++ ss' → own' i = some a) → (∀ j, j ∉ ss ++ ss' → σ'[j]? = σ[j]?) → σ'.length = σ.length → Q σ' H
      | none => False := h
    cases e2 : g d ρ with
    | none => rw [e2] at h; exact h.elim
    | some ρ1 =>
      rw [e2] at h
      intro own1 σ1 S1 le1 ge1 k1 l1
      have mono : Same (hd H (ob hid own)) (hd H (ob hid own1)) := hd_mono fun b o e n => ⟨e, fun z => n (z.elim .inl fun ⟨i, q⟩ => .inr ⟨i, le1 i b q⟩)⟩
      refine ⟨hid, own1, ρ1, ds, S1, RpL.mono mono _ _ r2, ?_⟩
      have h : match gs ds ρ1 with
        | some ρ' => ∀ own' σ', SR X.K hid own' H ρ' σ' → (∀ i a, own' i = some a → own i = some a) → (∀ i a, own i = some a → i ∉ ss ++ ss' → own' i = some a) → (∀ j, j ∉ ss ++ ss' → σ'[j]? = σ[j]?) → σ'.length = σ.length → Q σ' H
        | none => False := h
      cases e3 : gs ds ρ1 with
      | none => rw [e3] at h; exact h.elim
      | some ρ2 =>
        rw [e3] at h
        intro own2 σ2 S2 le2 ge2 k2 l2
        exact h own2 σ2 S2 (fun i a e => le1 i a (le2 i a e)) (fun i a e hj => ge2 i a (ge1 i a e fun z => hj (List.mem_append_left _ z)) fun z => hj (List.mem_append_right _ z)) (fun j hj => (k2 j fun z => hj (List.mem_append_right _ z)).trans (k1 j fun z => hj (List.mem_append_left _ z))) (l2.trans l1)
def gTp (n : Nat) (gs : List D → Ro → Option Ro) : GF := fun d ρ => match d with
  | .tup ds => if ds.length = n then gs ds ρ else none
  | _ => none
theorem dg_tup {es : List Expr} {k : Nat} {ss : List Nat} {gs : List D → Ro → Option Ro} {n : Nat} (hc : X.calm = true) (h : DGs X es ss gs) (hn : (assignEach es X.env).length = n := by rfl) (hst : (assignEach es X.env).findIdx? (·.1) = none := by rfl) : DG X (.Tuple es k pos) ss (gTp n gs) := by
  refine imp_pg (pg_tup hc h hn hst) fun v σ H Q ⟨hid, own, ρ, d, hS, r, h⟩ => ?_
  cases d with
  | tup ds =>
    obtain ⟨a, vs, e1, e2, e3⟩ := r
    have h : match (if ds.length = n then gs ds ρ else none) with
      | some ρ' => ∀ own' σ', SR X.K hid own' H ρ' σ' → (∀ i a, own' i = some a → own i = some a) → (∀ i a, own i = some a → i ∉ ss → own' i = some a) → (∀ j, j ∉ ss → σ'[j]? = σ[j]?) → σ'.length = σ.length → Q σ' H
      | none => False := h
    by_cases c : ds.length = n
    · rw [if_pos c] at h
      exact ⟨a, vs, e1, same_seqT hd_le e2, by rw [e3.len]; exact c, hid, own, ρ, ds, hS, e3, h⟩
    · rw [if_neg c] at h; exact h.elim
  | _ => exact h.elim
end
end PL
set_option Elab.async false
set_option linter.all false
set_option maxRecDepth 100000
set_option maxHeartbeats 4000000
/-! PL6: list comprehensions, statements. -/
namespace PL
open PySem PySem.Spec L2

/-! ### a block's slots -/
def wipeR (ρ : Ro) : List Nat → Ro
  | [] => ρ
  | v :: vs => (wipeR ρ vs).set v none
theorem wipeR_len (ρ : Ro) : ∀ vs : List Nat, (wipeR ρ vs).length = ρ.length
  | [] => rfl
  | v :: vs => by unfold wipeR; rw [List.length_set]; exact wipeR_len ρ vs
theorem wipeR_out {ρ : Ro} {i : Nat} : ∀ {vs : List Nat}, i ∉ vs → (wipeR ρ vs)[i]? = ρ[i]?
  | [], _ => rfl
  | v :: vs, h => by
    unfold wipeR
    rw [List.getElem?_set_ne fun e => h (by rw [e]; exact List.mem_cons_self)]
    exact wipeR_out fun m => h (List.mem_cons_of_mem _ m)
theorem wipeR_in {ρ : Ro} {i : Nat} {x : Bool × D} : ∀ {vs : List Nat}, (wipeR ρ vs)[i]? = some (some x) → i ∉ vs ∧ ρ[i]? = some (some x)
  | [], h => ⟨List.not_mem_nil, h⟩
  | v :: vs, h => by
    unfold wipeR at h
    by_cases c : v = i
    · subst c
      by_cases hl : v < (wipeR ρ vs).length
      · rw [List.getElem?_set_self hl] at h; cases h
      · rw [List.getElem?_eq_none (by rw [List.length_set]; omega)] at h; cases h
    · rw [List.getElem?_set_ne c] at h
      obtain ⟨h1, h2⟩ := wipeR_in h
      exact ⟨fun m => (List.mem_cons.mp m).elim (fun z => c z.symm) h1, h2⟩
theorem wipe_out' {σ : L2.St} {i : Nat} {vs : List Nat} (h : i ∉ vs) : (wipe σ vs)[i]? = σ[i]? := wipe_out h
theorem wipe_eq {σ σ' : L2.St} (hl : σ'.length = σ.length) : ∀ {vs : List Nat}, (∀ j, j ∉ vs → σ'[j]? = σ[j]?) → wipe σ' vs = wipe σ vs := fun {vs} h => by
  refine List.ext_getElem? fun j => ?_
  by_cases c : j ∈ vs
  · have k : ∀ (τ : L2.St) (vs : List Nat), j ∈ vs → (wipe τ vs)[j]? = if j < τ.length then some none else none := fun τ vs => by
      induction vs with
      | nil => exact fun z => absurd z List.not_mem_nil
      | cons v vs ih =>
        intro m
        unfold wipe
        by_cases e : v = j
        · subst e
          by_cases hj : v < τ.length
          · rw [List.getElem?_set_self (by rw [wipe_length]; exact hj), if_pos hj]
          · rw [List.getElem?_eq_none (by rw [List.length_set, wipe_length]; omega), if_neg hj]
        · rw [List.getElem?_set_ne e]
          exact ih ((List.mem_cons.mp m).resolve_left fun z => e z.symm)
    rw [k _ _ c, k _ _ c, hl]
  · rw [wipe_out c, wipe_out c]; exact h j c
open Classical in
noncomputable def outOf (own : Own) (vs : List Nat) : Own := fun j => if j ∈ vs then none else own j
theorem outOf_le {own : Own} {vs : List Nat} {j : Nat} {a : Addr} (h : outOf own vs j = some a) : own j = some a ∧ j ∉ vs := by
  unfold outOf at h
  by_cases c : j ∈ vs
  · rw [if_pos c] at h; cases h
  · rw [if_neg c] at h; exact ⟨h, c⟩
theorem outOf_ne {own : Own} {vs : List Nat} {j : Nat} (h : j ∉ vs) : outOf own vs j = own j := by unfold outOf; rw [if_neg h]
/-- what a block does not see: what was not seen outside, the new list, the lists of the names it hides -/
def hidB (hid : Addr → Prop) (own : Own) (vs : List Nat) (D : Addr) (b : Addr) : Prop := hid b ∨ b = D ∨ ∃ i, i ∈ vs ∧ own i = some b
theorem ob_blk {hid : Addr → Prop} {own : Own} {vs : List Nat} {D b : Addr} : ob (hidB hid own vs D) (outOf own vs) b ↔ ob hid own b ∨ b = D := by
  constructor
  · rintro ((h | h | ⟨i, _, h⟩) | ⟨i, h⟩)
    · exact .inl (.inl h)
    · exact .inr h
    · exact .inl (.inr ⟨i, h⟩)
    · exact .inl (.inr ⟨i, (outOf_le h).1⟩)
  · rintro ((h | ⟨i, h⟩) | h)
    · exact .inl (.inl h)
    · by_cases c : i ∈ vs
      · exact .inl (.inr (.inr ⟨i, c, h⟩))
      · exact .inr ⟨i, by rw [outOf_ne c]; exact h⟩
    · exact .inl (.inr (.inl h))
theorem SR.blk {K : PySem.W.Frag} {hid : Addr → Prop} {own : Own} {H1 H : Hp} {ρ : Ro} {σ : L2.St} {D : Addr} (h : SR K hid own H1 ρ σ) (nD : H1 D = none) (s : Same H1 H) (dD : H D ≠ none) (vs : List Nat) :
    SR K (hidB hid own vs D) (outOf own vs) H (wipeR ρ vs) (wipe σ vs) := by
  have mono : Same (hd H1 (ob hid own)) (hd H (ob (hidB hid own vs D) (outOf own vs))) := hd_mono fun b o e n => ⟨s _ _ e, fun z => (ob_blk.mp z).elim n fun z => by rw [z, nD] at e; cases e⟩
  refine ⟨by rw [wipeR_len, wipe_length]; exact h.len, fun i d e => ?_, fun i d e => ?_, fun i j a e1 e2 => h.inj i j a (outOf_le e1).1 (outOf_le e2).1, fun i a e => ?_, fun b hb => ?_⟩
  · obtain ⟨n, e⟩ := wipeR_in e
    obtain ⟨v, e1, e2⟩ := h.val i d e
    exact ⟨v, by rw [wipe_out n]; exact e1, Rp.mono mono _ _ e2⟩
  · obtain ⟨n, e⟩ := wipeR_in e
    obtain ⟨a, e1, e2, e3⟩ := h.ow i d e
    obtain ⟨_, ⟨xs, e4⟩, _⟩ := h.oh i a e1
    refine ⟨a, by rw [outOf_ne n]; exact e1, by rw [wipe_out n]; exact e2, ?_⟩
    rw [s _ _ e4, ← e4]
    exact e3.mono mono
  · obtain ⟨e, n⟩ := outOf_le e
    obtain ⟨h1, ⟨xs, h2⟩, d, h3⟩ := h.oh i a e
    refine ⟨fun z => ?_, ⟨xs, s _ _ h2⟩, d, by rw [wipeR_out n]; exact h3⟩
    rcases z with z | z | ⟨j, m, z⟩
    · exact h1 z
    · rw [z, nD] at h2; cases h2
    · exact n (by rw [h.inj i j a e z]; exact m)
  · rcases hb with z | z | ⟨i, _, z⟩
    · exact fun q => h.hin b z (s.free q)
    · rw [z]; exact dD
    · obtain ⟨_, ⟨xs, h2⟩, _⟩ := h.oh i b z
      rw [s _ _ h2]; exact fun q => nomatch q

/-! ### list comprehensions -/
def lcA (h : D → R (Option D)) : List D → R (List D)
  | [] => .ok []
  | d :: ds => (h d).bind fun o => (lcA h ds).bind fun r => .ok (match o with | some y => y :: r | none => r)
def turnD (g : GF) (tt : TF) (el : EF) (ρ0 : Ro) (d : D) : R (Option D) := match g d ρ0 with
  | none => .bad
  | some ρ1 => (tt ρ1).calm.bind fun b => if b = true then (el ρ1).calm.bind fun e => if okE e = true then .ok (some e.2) else .bad else .ok none
def lcF (f : IF) (vs : List Nat) (g : GF) (tt : TF) (el : EF) : EF := fun ρ => (f ρ).bind fun p => if p.2.length ≤ 16777216 then (lcA (turnD g tt el (wipeR ρ vs)) p.2).calm.bind fun ys => .ok (.fr, .lst ys) else .bad
def tYesF : TF := fun _ => .ok true
abbrev DTs (X : Cx) (W : WX) (ifs : List Expr) (f : TF) : Prop := PTs X ifs (tT X.K X.mg W f)
abbrev W0 : WX := fun _ _ _ _ => False
theorem imp_pts {X : Cx} {e : List Expr} {t t' : TT} (h : PTs X e t) (k : ∀ σ H Q, t' σ H Q → t σ H Q) : PTs X e t' := ⟨fun pins s σ H Q I q => h.run pins s σ H Q I (k _ _ _ q)⟩
section
variable {X : Cx} {W : WX}
theorem dts_nil : DTs X W [] tYesF := imp_pts pts_nil fun σ H Q ⟨hid, own, ρ, hS, h⟩ => h H (Same.refl _)
theorem dts_one {c : Expr} {f : TF} (h : DT X W c f) : DTs X W [c] f := pts_one h
theorem lcA_step {h : D → R (Option D)} {ds : List D} {i : Nat} {d : D} {zs : List D} (e : ds[i]? = some d) (q : lcA h (ds.drop i) = .ok zs) : ∃ o r, h d = .ok o ∧ lcA h (ds.drop (i + 1)) = .ok r ∧ zs = match o with | some y => y :: r | none => r := by
  rw [List.drop_eq_getElem?_toList_append, e] at q
  have q : (h d).bind (fun o => (lcA h (ds.drop (i + 1))).bind fun r => .ok (match o with | some y => y :: r | none => r)) = .ok zs := q
  cases e1 : h d with
  | exc c => rw [e1] at q; cases q
  | bad => rw [e1] at q; cases q
  | ok o =>
    cases e2 : lcA h (ds.drop (i + 1)) with
    | exc c => rw [e1, e2] at q; cases q
    | bad => rw [e1, e2] at q; cases q
    | ok r =>
      rw [e1, e2] at q
      have q := R.ok.inj q
      exact ⟨o, r, rfl, rfl, q.symm⟩
theorem lc_den {g : TG} {tt : TT} {te : TE} {f : IF} {vs ss : List Nat} {gf : GF} {tf : TF} {ef : EF} (hss : ∀ i ∈ ss, i ∈ vs) (hg : g = tG X.K ss gf) (ht : tt = tT X.K X.mg W0 tf) (he : te = tE X.K X.mg W0 ef) {σ : L2.St} {H : Hp} {Q : VK}
    (q : tE X.K X.mg W (lcF f vs gf tf ef) σ H Q) : tLc (tI X.K X.mg W f) g tt te vs σ H Q := by
  subst hg ht he
  obtain ⟨hid, own, ρ, hS, h⟩ := q
  refine ⟨hid, own, ρ, hS, ?_⟩
  unfold lcF at h
  cases e1 : f ρ with
  | exc c => rw [e1] at h; exact h
  | bad => rw [e1] at h; exact h
  | ok p =>
    rw [e1] at h
    intro H1 J s1 it D0 nD
    have S1 := hS.mono s1
    have h : Post X.K hid own H (Wc X.mg W σ) (if p.2.length ≤ 16777216 then (lcA (turnD gf tf ef (wipeR ρ vs)) p.2).calm.bind fun ys => .ok (.fr, .lst ys) else .bad) Q := h
    split at h
    · rename_i hz
      cases e2 : lcA (turnD gf tf ef (wipeR ρ vs)) p.2 with
      | exc c => rw [e2] at h; exact h.elim
      | bad => rw [e2] at h; exact h.elim
      | ok tot =>
        rw [e2] at h
        have h : Post X.K hid own H (Wc X.mg W σ) (.ok (.fr, .lst tot)) Q := h
        refine ⟨fun i m H2 => m = p.2.length - i ∧ i ≤ p.2.length ∧ Same H1 H2 ∧ ∃ ys us zs, H2 D0 = some (.lst us) ∧ RpL X.K (hd H2 fun b => ob hid own b ∨ b = D0) ys us ∧ ys.length ≤ i ∧ lcA (turnD gf tf ef (wipeR ρ vs)) (p.2.drop i) = .ok zs ∧ ys ++ zs = tot,
          ⟨p.2.length, rfl, Nat.zero_le _, sameUpd nD, [], [], tot, upd_same, rfl, Nat.le_refl _, e2, rfl⟩, ?_⟩
        rintro i m H2 ⟨rfl, hi, s2, ys, us, zs, hD, hys, hly, hzs, htot⟩
        have dom : ∀ b, (ob hid own b ∨ b = D0) → H2 b ≠ none := fun b z => z.elim (fun z q => S1.dom b z (s2.free q)) (fun z q => by rw [z, hD] at q; cases q)
        have sl : Same (lvl hid own H1 p.1) H2 := fun b o e => s2 b o (by cases hp : p.1 <;> rw [hp] at e <;> exact hd_le b o e)
        have sc : Same (hd H1 (ob hid own)) (hd H2 fun b => ob hid own b ∨ b = D0) := hd_mono fun b o e n => ⟨s2 b o e, fun z => z.elim n fun z => by rw [z, nD] at e; cases e⟩
        obtain ⟨stop, go⟩ := it i H2 (fun b => ob hid own b ∨ b = D0) sl sc dom
        by_cases hc : i = p.2.length
        · refine .inl ⟨stop hc, ?_⟩
          subst hc
          rw [List.drop_length] at hzs
          have ez : zs = [] := (R.ok.inj hzs).symm
          subst ez
          rw [List.append_nil] at htot
          subst htot
          exact h H2 _ (s1.trans s2) ⟨D0, rfl, s1.free nD, S1.vis nD, us, hD, hys⟩
        · have hlt : i < p.2.length := by omega
          obtain ⟨go1, go2⟩ := go _ (List.getElem?_eq_getElem hlt)
          obtain ⟨o, r, ho, hr, hz2⟩ := lcA_step (List.getElem?_eq_getElem hlt) hzs
          refine .inr ⟨go1, fun H' => Same H1 H' ∧ ∃ ys us zs, H' D0 = some (.lst us) ∧ RpL X.K (hd H' fun b => ob hid own b ∨ b = D0) ys us ∧ ys.length ≤ i + 1 ∧ lcA (turnD gf tf ef (wipeR ρ vs)) (p.2.drop (i + 1)) = .ok zs ∧ ys ++ zs = tot,
            fun H' n => ⟨p.2.length - (i + 1), by omega, rfl, hlt, n⟩, fun x H3 y3 => ?_⟩
          obtain ⟨s3, rx⟩ := go2 x H3 y3
          have S3 : SR X.K (hidB hid own vs D0) (outOf own vs) H3 (wipeR ρ vs) (wipe σ vs) := S1.blk nD (s2.trans s3) (by rw [s3 _ _ hD]; exact fun z => nomatch z) vs
          unfold turnD at ho
          refine ⟨hidB hid own vs D0, outOf own vs, wipeR ρ vs, p.2[i], S3, Rp.mono (hd_mono fun b o e n => ⟨e, fun z => n (ob_blk.mp z)⟩) _ _ rx, ?_⟩
          cases eg : gf p.2[i] (wipeR ρ vs) with
          | none => rw [eg] at ho; cases ho
          | some ρ1 =>
            rw [eg] at ho
            intro own1 σ1 S4 le1 ge1 k1 l1
            refine ⟨wipe_eq (by rw [l1, wipe_length]) (fun j hj => by rw [k1 j (fun z => hj (hss j z)), wipe_out hj]), ?_⟩
            have obs : ∀ b, ob (hidB hid own vs D0) own1 b ↔ ob hid own b ∨ b = D0 := fun b => ⟨fun z => ob_blk.mp (z.elim .inl fun ⟨j, z⟩ => .inr ⟨j, le1 j b z⟩), fun z => (ob_blk.mpr z).elim .inl fun ⟨j, z⟩ => .inr ⟨j, ge1 j b z fun m => (outOf_le z).2 (hss j m)⟩⟩
            have ho : (tf ρ1).calm.bind (fun b => if b = true then (ef ρ1).calm.bind fun e => if okE e = true then .ok (some e.2) else .bad else .ok none) = .ok o := ho
            refine ⟨_, own1, ρ1, S4, ?_⟩
            cases et : tf ρ1 with
            | exc c => rw [et] at ho; cases ho
            | bad => rw [et] at ho; cases ho
            | ok b =>
              rw [et] at ho
              intro H4 s4
              have ho : (if b = true then (ef ρ1).calm.bind fun e => if okE e = true then .ok (some e.2) else .bad else .ok none) = R.ok o := ho
              cases b with
              | false =>
                rw [if_neg Bool.false_ne_true] at ho ⊢
                have ho := R.ok.inj ho
                subst ho
                have s34 := s3.trans s4
                exact ⟨s2.trans s34, ys, us, r, s34 _ _ hD, RpL.mono (hd_same s34) _ _ hys, by omega, hr, by rw [hz2] at htot; exact htot⟩
              | true =>
                rw [if_pos rfl] at ho ⊢
                refine ⟨_, own1, ρ1, S4.mono s4, ?_⟩
                cases ee : ef ρ1 with
                | exc c => rw [ee] at ho; cases ho
                | bad => rw [ee] at ho; cases ho
                | ok e =>
                  rw [ee] at ho
                  have ho : (if okE e = true then R.ok (some e.2) else .bad) = R.ok o := ho
                  split at ho
                  · rename_i hok
                    have ho := R.ok.inj ho
                    subst ho
                    intro H5 v s5 r5
                    have s35 := (s3.trans s4).trans s5
                    have hD5 := s35 _ _ hD
                    have rv := Rp.mono (hd_mono (H' := H5) (P' := fun b => ob hid own b ∨ b = D0) fun b o e n => ⟨e, fun z => n ((obs b).mpr z)⟩) _ _ (r5.clean hok)
                    have up : Same (hd H5 fun b => ob hid own b ∨ b = D0) (hd (upd H5 D0 (.lst (us ++ [v]))) fun b => ob hid own b ∨ b = D0) := hd_mono fun b o e n => ⟨by rw [upd_ne (fun z => n (.inr z))]; exact e, n⟩
                    refine ⟨us, hD5, ?_, fun b o e => ?_, ys ++ [e.2], us ++ [v], r, upd_same, RpL.mono up _ _ (RpL.app (RpL.mono (hd_same s35) _ _ hys) (RpL.one rv)), by rw [List.length_append, List.length_singleton]; omega, hr, ?_⟩
                    · rw [hys.len, sizeLine_eq]; omega
                    · have hb : b ≠ D0 := fun z => by rw [z, nD] at e; cases e
                      rw [upd_ne hb]
                      exact s35 _ _ (s2 _ _ e)
                    · rw [hz2] at htot
                      rw [List.append_assoc]
                      exact htot
                  · cases ho
    · exact h.elim
theorem de_lc {elt tg iter : Expr} {ifs : List Expr} {scope : Scope} {own : List (Str × Nat)} {pos : Pos} {ss : List Nat} {f : IF} {gf : GF} {tf : TF} {ef : EF} (hc : X.calm = true) (hN : X.N.Nodup) (ok : BlkOk X.N X.env.scope scope own) (hss : ∀ i ∈ ss, i ∈ own.map (·.2)) (hi : DI X W tg iter f)
    (hg : ∀ (s : Shared) (H : Hp) (C : Addr) (cl : List (Str × Addr)) (fp : List Addr), DG (X.blk s H scope (compEnvC scope cl C X.env) fp) tg ss gf) (ht : ∀ (s : Shared) (H : Hp) (C : Addr) (cl : List (Str × Addr)) (fp : List Addr), DTs (X.blk s H scope (compEnvC scope cl C X.env) fp) W0 ifs tf)
    (he : ∀ (s : Shared) (H : Hp) (C : Addr) (cl : List (Str × Addr)) (fp : List Addr), DE (X.blk s H scope (compEnvC scope cl C X.env) fp) W0 elt ef) (hs : ∀ x, foldedSetIterable iter X.env x = pure x := by intro _; rfl) :
    DE X W (.ListComp elt [⟨tg, iter, ifs, 0⟩] scope pos) (lcF f (own.map (·.2)) gf tf ef) :=
  imp_pe (pe_lc hc hN hi ok hg ht he hs) fun σ H Q q => lc_den hss rfl rfl rfl q
end
end PL
set_option Elab.async false
set_option linter.all false
set_option maxRecDepth 100000
set_option maxHeartbeats 4000000
/-! PL7: statements over pure data. -/
namespace PL
open PySem PySem.Spec L2

inductive SRes where
  | nx (ρ : Ro) | rt (e : Ev) | bk (ρ : Ro) | ct (ρ : Ro) | exc (c : Str) (ρ : Ro) | bad
abbrev SF := Ro → SRes

/-- what a statement leaves: the objects that are not the call's own stay; a list that becomes its own was so before, or is new -/
structure Ext (own own' : Own) (H H' : Hp) : Prop where
  keep : ∀ b o, H b = some o → (∀ i, own i ≠ some b) → H' b = some o
  isow : ∀ i b, own' i = some b → (∃ j, own j = some b) ∨ H b = none
  free : ∀ b, H' b = none → H b = none
theorem Ext.refl {own : Own} {H : Hp} : Ext own own H H := ⟨fun _ _ e _ => e, fun i _ e => .inl ⟨i, e⟩, fun _ e => e⟩
theorem Ext.trans {o1 o2 o3 : Own} {H1 H2 H3 : Hp} (h : Ext o1 o2 H1 H2) (k : Ext o2 o3 H2 H3) : Ext o1 o3 H1 H3 := by
  refine ⟨fun b o e n => k.keep b o (h.keep b o e n) fun i z => ?_, fun i b e => ?_, fun b e => h.free b (k.free b e)⟩
  · rcases h.isow i b z with ⟨j, q⟩ | q
    · exact n j q
    · rw [q] at e; cases e
  · rcases k.isow i b e with ⟨j, q⟩ | q
    · exact h.isow j b q
    · exact .inr (h.free b q)
theorem Ext.same {own : Own} {H H' : Hp} (s : Same H H') : Ext own own H H' := ⟨fun b o e _ => s b o e, fun i _ e => .inl ⟨i, e⟩, fun _ e => s.free e⟩
theorem Ext.seen {own own' : Own} {hid : Addr → Prop} {H H' : Hp} (h : Ext own own' H H') : Same (hd H (ob hid own)) (hd H' (ob hid own')) := hd_mono fun b o e n =>
  ⟨h.keep b o e fun i z => n (.inr ⟨i, z⟩), fun z => z.elim (fun z => n (.inl z)) fun ⟨i, z⟩ => (h.isow i b z).elim (fun z => n (.inr z)) fun z => by rw [z] at e; cases e⟩
/-- what comes back -/
def RX (K : PySem.W.Frag) (hid : Addr → Prop) (own : Own) (H H' : Hp) : Ev → V → Prop
  | (.fr, d), v => ∃ a, v = .ref a ∧ (H a = none ∨ ∃ i, own i = some a) ∧ ¬ hid a ∧ MR K (hd H' fun b => hid b ∨ b = a) (H' a) d
  | (_, d), v => Rp K (hd H' hid) d v
theorem RX.ext {K : PySem.W.Frag} {hid : Addr → Prop} {own own' : Own} {H H1 H' : Hp} (x : Ext own own' H H1) : ∀ {e : Ev} {v : V}, RX K hid own' H1 H' e v → RX K hid own H H' e v
  | (.fr, _), _, ⟨a, e, h, n, m⟩ => ⟨a, e, h.elim (fun z => .inl (x.free a z)) (fun ⟨i, z⟩ => (x.isow i a z).elim .inr .inl), n, m⟩
  | (.cl, _), _, h => h
  | (.pk, _), _, h => h
def PostS (K : PySem.W.Frag) (mg : Str → Option Value) (W : WX) (hid : Addr → Prop) (own : Own) (H : Hp) (D : Ends) (r : SRes) : Prop :=
  match r with
  | .nx ρ => ∀ own' σ' H', Ext own own' H H' → SR K hid own' H' ρ σ' → D.nx σ' H'
  | .bk ρ => ∀ own' σ' H', Ext own own' H H' → SR K hid own' H' ρ σ' → D.bk σ' H'
  | .ct ρ => ∀ own' σ' H', Ext own own' H H' → SR K hid own' H' ρ σ' → D.ct σ' H'
  | .rt e => ∀ own' H' v, Ext own own' H H' → RX K hid own H H' e v → D.rt v H'
  | .exc c ρ => ∀ own' σ' H', Ext own own' H H' → SR K hid own' H' ρ σ' → Wc mg W σ' c H'
  | .bad => False
theorem PostS.ext {K : PySem.W.Frag} {mg : Str → Option Value} {W : WX} {hid : Addr → Prop} {own own' : Own} {H H' : Hp} {D : Ends} {r : SRes} (x : Ext own own' H H') (h : PostS K mg W hid own H D r) : PostS K mg W hid own' H' D r := by
  cases r with
  | nx ρ => exact fun o σ' h' x' => h o σ' h' (x.trans x')
  | bk ρ => exact fun o σ' h' x' => h o σ' h' (x.trans x')
  | ct ρ => exact fun o σ' h' x' => h o σ' h' (x.trans x')
  | exc c ρ => exact fun o σ' h' x' => h o σ' h' (x.trans x')
  | rt e => exact fun o h' v x' r => h o h' v (x.trans x') (r.ext x)
  | bad => exact h
def tS (K : PySem.W.Frag) (mg : Str → Option Value) (W : WX) (f : SF) : TS := fun D σ H => ∃ hid own ρ, SR K hid own H ρ σ ∧ PostS K mg W hid own H D (f ρ)
abbrev DS (X : Cx) (W : WX) (st : Stmt) (f : SF) : Prop := PS X st (tS X.K X.mg W f)
abbrev DSs (X : Cx) (W : WX) (st : List Stmt) (f : SF) : Prop := PSs X st (tS X.K X.mg W f)

def sOf (r : R Ev) (ρ : Ro) (k : Ev → SRes) : SRes := match r with
  | .ok e => k e
  | .exc c => .exc c ρ
  | .bad => .bad
section
variable {K : PySem.W.Frag} {mg : Str → Option Value} {W : WX} {hid : Addr → Prop} {own : Own} {H H' : Hp} {ρ : Ro} {σ : L2.St} {D : Ends}
theorem PostS.part {r : R Ev} {k : Ev → SRes} {T : VK} (hS : SR K hid own H ρ σ) (h : PostS K mg W hid own H D (sOf r ρ k))
    (q : ∀ e H1 v, Same H H1 → RV K hid own H H1 e.1 e.2 v → PostS K mg W hid own H D (k e) → T v H1) : Post K hid own H (Wc mg W σ) r T := by
  cases r with
  | ok e => exact fun H1 v s r => q e H1 v s r h
  | exc c => exact fun H1 s => h own σ H1 (Ext.same s) (hS.mono s)
  | bad => exact h
end

/-! ### blocks -/
def sSkip : SF := .nx
def sSeq (f g : SF) : SF := fun ρ => match f ρ with
  | .nx ρ' => g ρ'
  | r => r
def sIf (t : TF) (f g : SF) : SF := fun ρ => match t ρ with
  | .ok true => f ρ
  | .ok false => g ρ
  | .exc c => .exc c ρ
  | .bad => .bad
section
variable {X : Cx} {W : WX} {st : Stmt} {sts : List Stmt} {f g : SF} {e : Expr} {fe : EF} {pos : Pos}
theorem imp_psD {st : Stmt} {t t' : TS} (h : PS X st t) (k : ∀ D σ H, t' D σ H → t D σ H) : PS X st t' := imp_ps h k
theorem dss_nil : DSs X W [] sSkip := imp_pss pss_nil fun D σ H ⟨hid, own, ρ, hS, h⟩ => h own σ H Ext.refl hS
theorem seqD {K : PySem.W.Frag} {mg : Str → Option Value} : ∀ D σ H, tS K mg W (sSeq f g) D σ H → tSeq (tS K mg W f) (tS K mg W g) D σ H := fun D σ H ⟨hid, own, ρ, hS, h⟩ => ⟨hid, own, ρ, hS, by
  unfold sSeq at h
  cases e : f ρ with
  | nx ρ' => rw [e] at h; exact fun own' σ' H' x S' => ⟨hid, own', ρ', S', PostS.ext x h⟩
  | bk ρ' => rw [e] at h; exact h
  | ct ρ' => rw [e] at h; exact h
  | rt ρ' => rw [e] at h; exact h
  | exc c ρ' => rw [e] at h; exact h
  | bad => rw [e] at h; exact h⟩
theorem dss_cons (h1 : DS X W st f) (h2 : DSs X W sts g) : DSs X W (st :: sts) (sSeq f g) := imp_pss (pss_cons h1 h2) seqD
theorem dss_one (h : DS X W st f) : DSs X W [st] f := pss_one h
theorem ds_pass : DS X W (.Pass pos) sSkip := imp_ps ps_pass fun D σ H ⟨hid, own, ρ, hS, h⟩ => h own σ H Ext.refl hS
theorem ds_break : DS X W (.Break pos) .bk := imp_ps ps_break fun D σ H ⟨hid, own, ρ, hS, h⟩ => h own σ H Ext.refl hS
theorem ds_continue : DS X W (.Continue pos) .ct := imp_ps ps_continue fun D σ H ⟨hid, own, ρ, hS, h⟩ => h own σ H Ext.refl hS
theorem ds_doc {x j pos'} : DS X W (.Expr (.Constant (.str x) j pos) pos') sSkip := imp_ps ps_doc fun D σ H ⟨hid, own, ρ, hS, h⟩ => h own σ H Ext.refl hS
def sNever : SF := fun _ => .bad
theorem ds_never : DS X W st sNever := imp_ps ps_never fun D σ H ⟨hid, own, ρ, hS, h⟩ => h.elim
theorem ds_if {c : Expr} {a b : List Stmt} {t : TF} (hc : DT X W c t) (ha : DSs X W a f) (hb : DSs X W b g) : DS X W (.If c a b pos) (sIf t f g) :=
  imp_ps (ps_if hc ha hb) fun D σ H ⟨hid, own, ρ, hS, h⟩ => ⟨hid, own, ρ, hS, by
    unfold sIf at h
    cases e : t ρ with
    | ok b =>
      rw [e] at h
      intro H1 s1
      cases b with
      | true => rw [if_pos rfl]; exact ⟨hid, own, ρ, hS.mono s1, PostS.ext (Ext.same s1) h⟩
      | false => rw [if_neg Bool.false_ne_true]; exact ⟨hid, own, ρ, hS.mono s1, PostS.ext (Ext.same s1) h⟩
    | exc c => rw [e] at h; exact fun H1 s => h own σ H1 (Ext.same s) (hS.mono s)
    | bad => rw [e] at h; exact h.elim⟩

/-! ### drops, returns -/
def sDrop (fe : EF) : SF := fun ρ => sOf (fe ρ) ρ fun _ => .nx ρ
theorem ds_expr (he : DE X W e fe) (hs : swapsWith e none pos.line X.env = pure false := by rfl) : DS X W (.Expr e pos) (sDrop fe) :=
  imp_ps (ps_expr he hs) fun D σ H ⟨hid, own, ρ, hS, h⟩ => ⟨hid, own, ρ, hS, PostS.part hS h fun x H1 v s1 r1 h1 => h1 own σ H1 (Ext.same s1) (hS.mono s1)⟩
theorem RX.of {K : PySem.W.Frag} {hid : Addr → Prop} {own : Own} {H H' : Hp} : ∀ {e : Ev} {v : V}, RV K hid own H H' e.1 e.2 v → RX K hid own H H' e v
  | (.pk, _), _, h => h.rp
  | (.cl, _), _, h => Rp.mono hd_ob_hid _ _ h
  | (.fr, _), _, ⟨a, e, n, nb, m⟩ => ⟨a, e, .inl n, fun z => nb (.inl z), m.mono (hd_mono fun b o e n => ⟨e, fun z => n (z.elim (fun z => .inl (.inl z)) .inr)⟩)⟩
def sRet (fe : EF) : SF := fun ρ => sOf (fe ρ) ρ .rt
theorem ds_ret (he : DE X W e fe) : DS X W (.Return (some e) pos) (sRet fe) :=
  imp_ps (ps_ret he) fun D σ H ⟨hid, own, ρ, hS, h⟩ => ⟨hid, own, ρ, hS, PostS.part hS h fun x H1 v s1 r1 h1 => h1 own H1 v (Ext.same s1) (RX.of r1)⟩
def sRetN : SF := fun _ => .rt (.cl, .non)
theorem ds_retN : DS X W (.Return none pos) sRetN := imp_ps ps_retN fun D σ H ⟨hid, own, ρ, hS, h⟩ => h own H .non Ext.refl rfl
/-- return name: a list of the call's own is handed out -/
def sRetV (i : Nat) : SF := fun ρ => match ρ[i]? with
  | some (some (true, d)) => .rt (.fr, d)
  | some (some (false, d)) => .rt (.cl, d)
  | _ => .bad
theorem ds_retV (i : Nat) {x : Str} {p : Pos} (hx : PE X (.Name x p) (tVar i)) : DS X W (.Return (some (.Name x p)) pos) (sRetV i) :=
  imp_ps (ps_ret hx) fun D σ H ⟨hid, own, ρ, hS, h⟩ => by
    unfold sRetV at h
    split at h
    · rename_i d e
      obtain ⟨a, e1, e2, e3⟩ := hS.ow i d e
      exact ⟨_, e2, h own H _ Ext.refl ⟨a, rfl, .inr ⟨i, e1⟩, (hS.oh i a e1).1, e3.mono (hd_mono fun b o q n => ⟨q, fun z => n (z.elim .inl fun z => .inr ⟨i, by rw [z]; exact e1⟩)⟩)⟩⟩
    · rename_i d e
      obtain ⟨v, e1, e2⟩ := hS.val i d e
      exact ⟨v, e1, h own H _ Ext.refl (Rp.mono hd_ob_hid _ _ e2)⟩
    · exact h.elim

/-! ### name = e -/
open Classical in
noncomputable def setOwn (own : Own) (i : Nat) (a : Addr) : Own := fun j => if j = i then some a else own j
theorem setOwn_le {own : Own} {i j : Nat} {a b : Addr} (h : setOwn own i a j = some b) : (j = i ∧ b = a) ∨ (j ≠ i ∧ own j = some b) := by
  unfold setOwn at h
  by_cases c : j = i
  · rw [if_pos c] at h; exact .inl ⟨c, (Option.some.inj h).symm⟩
  · rw [if_neg c] at h; exact .inr ⟨c, h⟩
theorem SR.setO {K : PySem.W.Frag} {hid : Addr → Prop} {own : Own} {H H' : Hp} {ρ : Ro} {σ : L2.St} (h : SR K hid own H ρ σ) (s : Same H H') {i : Nat} {d : D} {a : Addr} (hi : i < ρ.length) (na : H a = none) (nb : ¬ ob hid own a)
    (m : MR K (hd H' fun b => ob hid own b ∨ b = a) (H' a) d) : SR K hid (setOwn own i a) H' (ρ.set i (some (true, d))) (σ.set i (some (.ref a))) := by
  have obs : ∀ b, ob hid (setOwn own i a) b → ob hid own b ∨ b = a := fun b z => z.elim (fun z => .inl (.inl z)) fun ⟨j, z⟩ => (setOwn_le z).elim (fun z => .inr z.2) fun z => .inl (.inr ⟨j, z.2⟩)
  have mono : Same (hd H (ob hid own)) (hd H' (ob hid (setOwn own i a))) := hd_mono fun b o e n => ⟨s _ _ e, fun z => (obs b z).elim n fun z => by rw [z, na] at e; cases e⟩
  have selfO : setOwn own i a i = some a := if_pos rfl
  have otherO : ∀ {j : Nat} {b : Addr}, j ≠ i → own j = some b → setOwn own i a j = some b := fun c e => by unfold setOwn; rw [if_neg c]; exact e
  refine ⟨by rw [List.length_set, List.length_set]; exact h.len, fun j d' e => ?_, fun j d' e => ?_, fun j k b e1 e2 => ?_, fun j b e => ?_, fun b hb z => h.hin b hb (s.free z)⟩
  · by_cases c : i = j
    · subst c; rw [List.getElem?_set_self hi] at e; cases e
    · rw [List.getElem?_set_ne c] at e ⊢
      obtain ⟨u, e1, e2⟩ := h.val j d' e
      exact ⟨u, e1, Rp.mono mono _ _ e2⟩
  · by_cases c : i = j
    · subst c
      rw [List.getElem?_set_self hi] at e
      cases e
      exact ⟨a, selfO, by rw [List.getElem?_set_self (by rw [← h.len]; exact hi)], m.mono (hd_mono fun b o q n => ⟨q, fun z => n (obs b z)⟩)⟩
    · rw [List.getElem?_set_ne c] at e ⊢
      obtain ⟨b, e1, e2, e3⟩ := h.ow j d' e
      obtain ⟨_, ⟨xs, e4⟩, _⟩ := h.oh j b e1
      refine ⟨b, otherO (Ne.symm c) e1, e2, ?_⟩
      rw [s _ _ e4, ← e4]
      exact e3.mono mono
  · rcases setOwn_le e1 with ⟨c1, z1⟩ | ⟨c1, z1⟩ <;> rcases setOwn_le e2 with ⟨c2, z2⟩ | ⟨c2, z2⟩
    · rw [c1, c2]
    · exact absurd (.inr ⟨k, by rw [← z1]; exact z2⟩) nb
    · exact absurd (.inr ⟨j, by rw [← z2]; exact z1⟩) nb
    · exact h.inj j k b z1 z2
  · rcases setOwn_le e with ⟨c, z⟩ | ⟨c, z⟩
    · subst c z
      refine ⟨fun q => nb (.inl q), ?_, d, by rw [List.getElem?_set_self hi]⟩
      cases d with
      | lst ds => obtain ⟨us, q, _⟩ := m; exact ⟨us, q⟩
      | _ => exact m.elim
    · obtain ⟨h1, ⟨xs, h2⟩, d', h3⟩ := h.oh j b z
      exact ⟨h1, ⟨xs, s _ _ h2⟩, d', by rw [List.getElem?_set_ne (Ne.symm c)]; exact h3⟩
def setSl (i : Nat) (ρ : Ro) : Ev → SRes
  | (.fr, d) => if i < ρ.length then .nx (ρ.set i (some (true, d))) else .bad
  | e => if okE e = true then .nx (ρ.set i (some (false, e.2))) else .bad
def sSet (i : Nat) (fe : EF) : SF := fun ρ => sOf (fe ρ) ρ (setSl i ρ)
theorem setSl_ok {K : PySem.W.Frag} {mg : Str → Option Value} {hid : Addr → Prop} {own : Own} {H H1 : Hp} {ρ : Ro} {σ : L2.St} {DD : Ends} {i : Nat} {x : Ev} {v : V} (hS : SR K hid own H ρ σ) (s1 : Same H H1) (r1 : RV K hid own H H1 x.1 x.2 v)
    (h1 : PostS K mg W hid own H DD (setSl i ρ x)) : DD.nx (σ.set i (some v)) H1 := by
  have val : ∀ {d : D}, Rp K (hd H1 (ob hid own)) d v → PostS K mg W hid own H DD (.nx (ρ.set i (some (false, d)))) → DD.nx (σ.set i (some v)) H1 := fun {d} r h1 =>
    h1 (unown own i) _ H1 ⟨fun b o e _ => s1 b o e, fun j b e => .inl ⟨j, (unown_le e).1⟩, fun b e => s1.free e⟩ ((hS.mono s1).setV r)
  obtain ⟨k, d⟩ := x
  cases k with
  | fr =>
    have h1 : PostS K mg W hid own H DD (if i < ρ.length then .nx (ρ.set i (some (true, d))) else .bad) := h1
    split at h1
    · rename_i hi
      obtain ⟨a, ev, na, nb, m⟩ := r1
      subst ev
      refine h1 (setOwn own i a) _ H1 ⟨fun b o e _ => s1 b o e, fun j b e => ?_, fun b e => s1.free e⟩ (hS.setO s1 hi na nb m)
      rcases setOwn_le e with ⟨_, z⟩ | ⟨_, z⟩
      · rw [z]; exact .inr na
      · exact .inl ⟨j, z⟩
    · exact h1.elim
  | cl => exact val r1 h1
  | pk =>
    have h1 : PostS K mg W hid own H DD (if okE (.pk, d) = true then .nx (ρ.set i (some (false, d))) else .bad) := h1
    split at h1
    · rename_i hok
      exact val (r1.clean hok) h1
    · exact h1.elim
theorem ds_set (i : Nat) {x : Str} {pos' : Pos} (hN : X.N.Nodup) (hi : X.N[i]? = some x) (hx : Loc X.env.scope x) (he : DE X W e fe) (hs : swapsWith e (some (.Name x pos')) pos.line X.env = pure false := by rfl) (hf : X.fn x = true ∨ X.env.scope.names.lookup x = some .local := by first | exact .inl rfl | exact .inr rfl | assumption) :
    DS X W (.Assign [.Name x pos'] e pos) (sSet i fe) :=
  imp_ps (ps_set hN hi hx he hs hf) fun D σ H ⟨hid, own, ρ, hS, h⟩ => ⟨hid, own, ρ, hS, PostS.part hS h fun x H1 v s1 r1 h1 => setSl_ok hS s1 r1 h1⟩
theorem ds_setLc (i : Nat) {y : Str} {py : Pos} {elt tg iter : Expr} {ifs : List Expr} {scope : Scope} {own : List (Str × Nat)} {pos spos : Pos} {ss : List Nat} {f : IF} {gf : GF} {tf : TF} {ef : EF} (hc : X.calm = true) (hN : X.N.Nodup) (hy : X.N[i]? = some y) (hyl : X.env.scope.names.lookup y = some .local)
    (hsw : swapsWith (.ListComp elt [⟨tg, iter, ifs, 0⟩] scope pos) (some (.Name y py)) spos.line X.env = pure true) (ok : BlkOk X.N X.env.scope scope own) (hss : ∀ i ∈ ss, i ∈ own.map (·.2)) (hi : DI X W tg iter f)
    (hg : ∀ (s : Shared) (H : Hp) (C : Addr) (cl : List (Str × Addr)) (fp : List Addr), DG (X.blk s H scope (compEnvC scope cl C X.env) fp) tg ss gf) (ht : ∀ (s : Shared) (H : Hp) (C : Addr) (cl : List (Str × Addr)) (fp : List Addr), DTs (X.blk s H scope (compEnvC scope cl C X.env) fp) W0 ifs tf)
    (he : ∀ (s : Shared) (H : Hp) (C : Addr) (cl : List (Str × Addr)) (fp : List Addr), DE (X.blk s H scope (compEnvC scope cl C X.env) fp) W0 elt ef) (hs : ∀ x, foldedSetIterable iter X.env x = pure x := by intro _; rfl) :
    DS X W (.Assign [.Name y py] (.ListComp elt [⟨tg, iter, ifs, 0⟩] scope pos) spos) (sSet i (lcF f (own.map (·.2)) gf tf ef)) :=
  imp_ps (ps_setLc hc hN hy hyl hsw hi ok hg ht he hs) fun D σ H ⟨hid, own, ρ, hS, h⟩ => lc_den hss rfl rfl rfl ⟨hid, own, ρ, hS, PostS.part hS h fun x H1 v s1 r1 h1 => setSl_ok hS s1 r1 h1⟩
/-- a target of several names -/
def sAsg (fe : EF) (g : GF) : SF := fun ρ => sOf (fe ρ) ρ fun e => if okE e = true then (match g e.2 ρ with | some ρ' => .nx ρ' | none => .bad) else .bad
theorem ds_asg {tg : Expr} {ss : List Nat} {gf : GF} (he : DE X W e fe) (hg : DG X tg ss gf) (hs : swapsWithSole [tg] e pos.line X.env = pure false := by rfl) (hw : swappedStores [tg] e X.env = pure none := by rfl)
    (h1 : (assignEach [tg] X.env).map (·.2) = [assign tg X.env] := by rfl) : DS X W (.Assign [tg] e pos) (sAsg fe gf) :=
  imp_ps (ps_asg he hg hs hw h1) fun D σ H ⟨hid, own, ρ, hS, h⟩ => ⟨hid, own, ρ, hS, PostS.part hS h fun x H1 v s1 r1 h1 => by
    by_cases c : okE x = true
    · rw [if_pos c] at h1
      refine ⟨hid, own, ρ, x.2, hS.mono s1, r1.clean c, ?_⟩
      cases eg : gf x.2 ρ with
      | none => rw [eg] at h1; exact h1.elim
      | some ρ' => rw [eg] at h1; exact fun own' σ' S' le ge k l => h1 own' σ' H1 ⟨fun b o e _ => s1 b o e, fun j b e => .inl ⟨j, le j b e⟩, fun b e => s1.free e⟩ S'
    · rw [if_neg c] at h1; exact h1.elim⟩
/-- name op= e -/
def sAug (i : Nat) (f : Int → Int → Int) (fe : EF) : SF := fun ρ => match ρ[i]? with
  | some (some (false, .int a)) => sOf (fe ρ) ρ fun e => match e.2 with
    | .int b => .nx (ρ.set i (some (false, .int (f a b))))
    | _ => .bad
  | _ => .bad
theorem ds_aug (i : Nat) {x : Str} {op : Operator} {f : Int → Int → Int} {pos' : Pos} (ho : PIp X op (ipI f)) (hN : X.N.Nodup) (hi : X.N[i]? = some x) (hx : Loc X.env.scope x) (he : DE X W e fe) (hf : X.fn x = true ∨ X.env.scope.names.lookup x = some .local := by first | exact .inl rfl | exact .inr rfl | assumption) :
    DS X W (.AugAssign (.Name x pos') op e pos) (sAug i f fe) :=
  imp_ps (ps_aug hN hi hx he ho hf) fun D σ H ⟨hid, own, ρ, hS, h⟩ => by
    unfold sAug at h
    split at h
    · rename_i a ea
      obtain ⟨v, e1, e2⟩ := hS.val i _ ea
      refine ⟨v, e1, hid, own, ρ, hS, PostS.part hS h fun x H1 u s1 r1 h1 => ?_⟩
      obtain ⟨k, d⟩ := x
      cases d with
      | int b => exact ⟨a, b, e2, r1.rt, h1 (unown own i) _ H1 ⟨fun b o e _ => s1 b o e, fun j b e => .inl ⟨j, (unown_le e).1⟩, fun b e => s1.free e⟩ ((hS.mono s1).setV rfl)⟩
      | _ => exact h1.elim
    · exact h.elim

/-! ### lists of the call's own are written -/
theorem SR.wrL {K : PySem.W.Frag} {hid : Addr → Prop} {own : Own} {H : Hp} {ρ : Ro} {σ : L2.St} (h : SR K hid own H ρ σ) {i : Nat} {a : Addr} {ds : List D} {us : List V} (ha : own i = some a) (r : RpL K (hd H (ob hid own)) ds us) :
    SR K hid own (upd H a (.lst us)) (ρ.set i (some (true, .lst ds))) σ ∧ Ext own own H (upd H a (.lst us)) := by
  obtain ⟨na, ⟨xs, hx⟩, d0, hr⟩ := h.oh i a ha
  have hi : i < ρ.length := (List.getElem?_eq_some_iff.mp hr).1
  have mono : Same (hd H (ob hid own)) (hd (upd H a (.lst us)) (ob hid own)) := hd_mono fun b o e n => ⟨by rw [upd_ne (fun z => n (.inr ⟨i, by rw [z]; exact ha⟩))]; exact e, n⟩
  refine ⟨⟨by rw [List.length_set]; exact h.len, fun j d' e => ?_, fun j d' e => ?_, h.inj, fun j b e => ?_, fun b hb => ?_⟩, fun b o e n => ?_, fun j b e => .inl ⟨j, e⟩, fun b e => ?_⟩
  · by_cases c : i = j
    · subst c; rw [List.getElem?_set_self hi] at e; cases e
    · rw [List.getElem?_set_ne c] at e
      obtain ⟨u, e1, e2⟩ := h.val j d' e
      exact ⟨u, e1, Rp.mono mono _ _ e2⟩
  · by_cases c : i = j
    · subst c
      rw [List.getElem?_set_self hi] at e
      cases e
      obtain ⟨b, e1, e2, _⟩ := h.ow i d0 hr
      rw [ha] at e1
      cases e1
      exact ⟨a, ha, e2, us, upd_same, RpL.mono mono _ _ r⟩
    · rw [List.getElem?_set_ne c] at e
      obtain ⟨b, e1, e2, e3⟩ := h.ow j d' e
      have hb : b ≠ a := fun z => c (h.inj i j a ha (by rw [← z]; exact e1))
      refine ⟨b, e1, e2, ?_⟩
      rw [upd_ne hb]
      exact e3.mono mono
  · obtain ⟨h1, ⟨ys, h2⟩, d', h3⟩ := h.oh j b e
    refine ⟨h1, ?_, ?_⟩
    · by_cases c : b = a
      · subst c; exact ⟨us, upd_same⟩
      · exact ⟨ys, by rw [upd_ne c]; exact h2⟩
    · by_cases c : i = j
      · subst c; exact ⟨_, by rw [List.getElem?_set_self hi]⟩
      · exact ⟨d', by rw [List.getElem?_set_ne c]; exact h3⟩
  · have c : b ≠ a := fun z => na (by rw [← z]; exact hb)
    rw [upd_ne c]; exact h.hin b hb
  · rw [upd_ne (fun z => n i (by rw [z]; exact ha))]; exact e
  · by_cases c : b = a
    · subst c; rw [upd_same] at e; cases e
    · rw [upd_ne c] at e; exact e
/-- name.append(e) -/
def sApp (i : Nat) (fe : EF) : SF := fun ρ => match ρ[i]? with
  | some (some (true, .lst ds)) => sOf (fe ρ) ρ fun e => if okE e = true ∧ ds.length < 16777216 then .nx (ρ.set i (some (true, .lst (ds ++ [e.2])))) else .bad
  | _ => .bad
theorem ds_app (i : Nat) {x : Str} {p apos cpos : Pos} (hv : PE X (.Name x p) (tVar i)) (he : DE X W e fe) (hs : starEach [e] X.env = (false, eval e X.env) :: starEach [] X.env := by rfl)
    (hsw : swapsWith (.Call (.Attribute (.Name x p) "append" apos) [e] [] cpos) none pos.line X.env = pure false := by rfl)
    (hbase : attributeBase (.Name x p) "append" X.env (eval (.Name x p) X.env) = eval (.Name x p) X.env := by rfl)
    (hline : (apos.endLine == cpos.line) = true := by rfl) (hfew : ((backTo cpos (starEach [e] X.env)).all (fun x => !x.1) && (backToKw cpos (keywordEach [] X.env)).all (fun x => x.1.isSome)
      && decide (([e] : List Expr).length + ([] : List Keyword).length + (if ([] : List Keyword).isEmpty then 0 else 1) < 30)) = true := by rfl) :
    DS X W (.Expr (.Call (.Attribute (.Name x p) "append" apos) [e] [] cpos) pos) (sApp i fe) := by
  refine imp_ps (ps_expr (pe_bm F.plainAttrs_list F.slot_list_append F.type_list_append mt_append hv (pa_cons he pa_nil hs) hbase hfew hline hs rfl) hsw) fun D σ H ⟨hid, own, ρ, hS, h⟩ => ?_
  unfold sApp at h
  split at h
  · rename_i ds ed
    obtain ⟨a, ea, es, us, eh, er⟩ := hS.ow i _ ed
    refine ⟨_, es, ?_, hid, own, ρ, hS, PostS.part hS h fun x H1 v s1 r1 h1 => ?_⟩
    · exact .inl ⟨rfl, us, SqL.of eh⟩
    · by_cases c : okE x = true ∧ ds.length < 16777216
      · rw [if_pos c] at h1
        have S1 := hS.mono s1
        have rr : RpL X.K (hd H1 (ob hid own)) (ds ++ [x.2]) (us ++ [v]) := RpL.app (RpL.mono (hd_same s1) _ _ er) (RpL.one (r1.clean c.1))
        obtain ⟨w1, w2⟩ := S1.wrL ea rr
        exact ⟨a, us, v, rfl, rfl, s1 _ _ eh, by rw [er.len, sizeLine_eq]; exact c.2, h1 own σ _ ((Ext.same s1).trans w2) w1⟩
      · rw [if_neg c] at h1; exact h1.elim
  · exact h.elim
/-- name[e1] = e -/
def sSub (i : Nat) (fi fe : EF) : SF := fun ρ => match ρ[i]? with
  | some (some (true, .lst ds)) => sOf (fe ρ) ρ fun e => sOf (fi ρ) ρ fun k => match k.2 with
    | .int j => (match ixN ds.length j with | some n => if okE e = true then .nx (ρ.set i (some (true, .lst (ds.set n e.2)))) else .bad | none => .bad)
    | _ => .bad
  | _ => .bad
theorem ds_sub (i : Nat) {x : Str} {p tpos : Pos} {e1 : Expr} {fi : EF} (hv : PE X (.Name x p) (tVar i)) (hi : DE X W e1 fi) (he : DE X W e fe) (hs : swapsWithSole [.Subscript (.Name x p) e1 tpos] e pos.line X.env = pure false := by rfl) (hw : swappedStores [.Subscript (.Name x p) e1 tpos] e X.env = pure none := by rfl)
    (h1 : (assignEach [.Subscript (.Name x p) e1 tpos] X.env).map (·.2) = [assign (.Subscript (.Name x p) e1 tpos) X.env] := by rfl)
    (ha : ∀ v, assign (.Subscript (.Name x p) e1 tpos) X.env v = (do
      let ov ← holding [v] (eval (.Name x p) X.env)
      let iv ← holding [v, ov] (eval e1 X.env)
      standAt tpos
      holding [v, ov, iv] (setItem ov iv v)
      release [v, ov, iv] []) := by intro _; rfl) : DS X W (.Assign [.Subscript (.Name x p) e1 tpos] e pos) (sSub i fi fe) := by
  refine imp_ps (ps_asg he (pg_sub hv hi set_list ha) hs hw h1) fun D σ H ⟨hid, own, ρ, hS, h⟩ => ?_
  unfold sSub at h
  split at h
  · rename_i ds ed
    obtain ⟨a, ea, es, us, eh, er⟩ := hS.ow i _ ed
    refine ⟨hid, own, ρ, hS, PostS.part hS h fun x H1 v s1 r1 h1 => ?_⟩
    have S1 := hS.mono s1
    refine ⟨_, es, hid, own, ρ, S1, PostS.part S1 (PostS.ext (Ext.same s1) h1) fun y H2 u s2 r2 h2 => ?_⟩
    obtain ⟨k, d⟩ := y
    cases d with
    | int j =>
      have h2 : PostS X.K X.mg W hid own H1 D (match ixN ds.length j with | some n => if okE x = true then .nx (ρ.set i (some (true, .lst (ds.set n x.2)))) else .bad | none => .bad) := h2
      cases en : ixN ds.length j with
      | none => rw [en] at h2; exact h2.elim
      | some n =>
        rw [en] at h2
        have h2 : PostS X.K X.mg W hid own H1 D (if okE x = true then .nx (ρ.set i (some (true, .lst (ds.set n x.2)))) else .bad) := h2
        split at h2
        · rename_i hok
          have S2 := S1.mono s2
          have rr : RpL X.K (hd H2 (ob hid own)) (ds.set n x.2) (us.set n v) := RpL.set (Rp.mono (hd_same s2) _ _ (r1.clean hok)) n (RpL.mono (hd_same (s1.trans s2)) _ _ er)
          obtain ⟨w1, w2⟩ := S2.wrL ea rr
          exact ⟨a, us, j, n, rfl, r2.rt, s2 _ _ (s1 _ _ eh), by rw [er.len]; exact en, h2 own σ _ ((Ext.same s2).trans w2) w1⟩
        · exact h2.elim
    | _ => exact h2.elim
  · exact h.elim

/-! ### loops -/
def forL (g : GF) (fb : SF) : List D → SF
  | [], ρ => .nx ρ
  | d :: ds, ρ => match g d ρ with
    | none => .bad
    | some ρ1 => match fb ρ1 with
      | .nx ρ2 => forL g fb ds ρ2
      | .ct ρ2 => forL g fb ds ρ2
      | .bk ρ2 => .nx ρ2
      | r => r
def sFor (fi : IF) (g : GF) (fb : SF) : SF := fun ρ => match fi ρ with
  | .ok (false, ds) => forL g fb ds ρ
  | .exc c => .exc c ρ
  | _ => .bad
theorem ds_for {tg iter : Expr} {body : List Stmt} {ss : List Nat} {fi : IF} {gf : GF} {fb : SF} (hp : PassesOwn (model X.prog X.w) X.A X.env X.xe) (hc : X.calm = true) (hi : DI X W tg iter fi) (hg : DG X tg ss gf) (hb : DSs X W body fb)
    (hs : ∀ x, foldedSetIterable iter X.env x = pure x := by intro _; rfl) : DS X W (.For tg iter body [] pos) (sFor fi gf fb) := by
  refine imp_ps (ps_for hp hc hi hg hb hs) fun D σ H ⟨hid, own, ρ, hS, h⟩ => ⟨hid, own, ρ, hS, ?_⟩
  unfold sFor at h
  cases e : fi ρ with
  | exc c => rw [e] at h; exact fun H1 s => h own σ H1 (Ext.same s) (hS.mono s)
  | bad => rw [e] at h; exact h.elim
  | ok p =>
    obtain ⟨pk, ds⟩ := p
    cases pk with
    | true => rw [e] at h; exact h.elim
    | false =>
      rw [e] at h
      have h : PostS X.K X.mg W hid own H D (forL gf fb ds ρ) := h
      intro H1 J s1 it
      have S1 := hS.mono s1
      refine ⟨fun i m σ' H' => m = ds.length - i ∧ i ≤ ds.length ∧ ∃ own' ρ', Ext own own' H1 H' ∧ SR X.K hid own' H' ρ' σ' ∧ PostS X.K X.mg W hid own' H' D (forL gf fb (ds.drop i) ρ'), ⟨ds.length, rfl, Nat.zero_le _, own, ρ, Ext.refl, S1, PostS.ext (Ext.same s1) h⟩, ?_⟩
      rintro i m σ2 H2 ⟨rfl, hle, own2, ρ2, x2, S2, h2⟩
      obtain ⟨stop, go⟩ := it i H2 (ob hid own2) (fun b o q => hd_le _ _ (x2.seen b o q)) x2.seen S2.dom
      by_cases hcI : i = ds.length
      · refine .inl ⟨stop hcI, ?_⟩
        rw [hcI, List.drop_length] at h2
        exact h2 own2 σ2 H2 Ext.refl S2
      · have hlt : i < ds.length := by omega
        obtain ⟨go1, go2⟩ := go _ (List.getElem?_eq_getElem hlt)
        have ed : ds.drop i = ds[i] :: ds.drop (i + 1) := (List.drop_eq_getElem_cons hlt)
        rw [ed] at h2
        refine .inr ⟨go1, fun σ' H' => ∃ own' ρ', Ext own own' H1 H' ∧ SR X.K hid own' H' ρ' σ' ∧ PostS X.K X.mg W hid own' H' D (forL gf fb (ds.drop (i + 1)) ρ'), fun σ' H' q => ⟨ds.length - (i + 1), by omega, rfl, hlt, q⟩, fun x H3 y => ?_⟩
        obtain ⟨s3, rx⟩ := go2 x H3 y
        have S3 := S2.mono s3
        refine ⟨hid, own2, ρ2, ds[i], S3, rx, ?_⟩
        unfold forL at h2
        cases eg : gf ds[i] ρ2 with
        | none => rw [eg] at h2; exact h2.elim
        | some ρ3 =>
          rw [eg] at h2
          intro own3 σ3 S4 le3 ge3 k3 l3
          have x3 : Ext own2 own3 H2 H3 := ⟨fun b o e _ => s3 b o e, fun j b e => .inl ⟨j, le3 j b e⟩, fun b e => s3.free e⟩
          refine ⟨hid, own3, ρ3, S4, ?_⟩
          have h2 : PostS X.K X.mg W hid own2 H2 D (match fb ρ3 with | .nx ρ2 => forL gf fb (ds.drop (i + 1)) ρ2 | .ct ρ2 => forL gf fb (ds.drop (i + 1)) ρ2 | .bk ρ2 => .nx ρ2 | r => r) := h2
          have h2 := PostS.ext x3 h2
          have x23 := x2.trans x3
          cases eb : fb ρ3 with
          | nx ρ4 => rw [eb] at h2; exact fun own4 σ4 H4 x4 S5 => ⟨own4, ρ4, x23.trans x4, S5, PostS.ext x4 h2⟩
          | ct ρ4 => rw [eb] at h2; exact fun own4 σ4 H4 x4 S5 => ⟨own4, ρ4, x23.trans x4, S5, PostS.ext x4 h2⟩
          | bk ρ4 => rw [eb] at h2; exact fun own4 σ4 H4 x4 S5 => h2 own4 σ4 H4 x4 S5
          | rt e4 => rw [eb] at h2; exact h2
          | exc c4 ρ4 => rw [eb] at h2; exact h2
          | bad => rw [eb] at h2; exact h2.elim
def whileL (t : TF) (fb : SF) : Nat → SF
  | 0, _ => .bad
  | n + 1, ρ => match t ρ with
    | .ok true => (match fb ρ with
      | .nx ρ2 => whileL t fb n ρ2
      | .ct ρ2 => whileL t fb n ρ2
      | .bk ρ2 => .nx ρ2
      | r => r)
    | .ok false => .nx ρ
    | .exc c => .exc c ρ
    | .bad => .bad
theorem ds_while (n : Nat) {c : Expr} {body : List Stmt} {t : TF} {fb : SF} (hp : PassesOwn (model X.prog X.w) X.A X.env X.xe) (hc : DT X W c t) (hb : DSs X W body fb) : DS X W (.While c body [] pos) (whileL t fb n) := by
  refine imp_ps (ps_while hp hc hb) fun D σ H ⟨hid, own, ρ, hS, h⟩ => ?_
  refine ⟨fun m σ' H' => ∃ own' ρ', Ext own own' H H' ∧ SR X.K hid own' H' ρ' σ' ∧ PostS X.K X.mg W hid own' H' D (whileL t fb m ρ'), ⟨n, own, ρ, Ext.refl, hS, h⟩, ?_⟩
  rintro m σ2 H2 ⟨own2, ρ2, x2, S2, h2⟩
  refine ⟨hid, own2, ρ2, S2, ?_⟩
  cases m with
  | zero => exact h2.elim
  | succ m =>
    unfold whileL at h2
    cases et : t ρ2 with
    | exc c => rw [et] at h2; exact fun H1 s => h2 own2 σ2 H1 (Ext.same s) (S2.mono s)
    | bad => rw [et] at h2; exact h2.elim
    | ok b =>
      rw [et] at h2
      intro H3 s3
      have S3 := S2.mono s3
      have h2 := PostS.ext (Ext.same s3) h2
      have x3 := x2.trans (Ext.same s3)
      cases b with
      | false => rw [if_neg Bool.false_ne_true]; exact h2 own2 σ2 H3 Ext.refl S3
      | true =>
        rw [if_pos rfl]
        refine ⟨fun σ' H' => ∃ own' ρ', Ext own own' H H' ∧ SR X.K hid own' H' ρ' σ' ∧ PostS X.K X.mg W hid own' H' D (whileL t fb m ρ'), fun σ' H' q => ⟨m, Nat.lt_succ_self m, q⟩, hid, own2, ρ2, S3, ?_⟩
        have h2 : PostS X.K X.mg W hid own2 H3 D (match fb ρ2 with | .nx ρ2 => whileL t fb m ρ2 | .ct ρ2 => whileL t fb m ρ2 | .bk ρ2 => .nx ρ2 | r => r) := h2
        cases eb : fb ρ2 with
        | nx ρ4 => rw [eb] at h2; exact fun own4 σ4 H4 x4 S5 => ⟨own4, ρ4, x3.trans x4, S5, PostS.ext x4 h2⟩
        | ct ρ4 => rw [eb] at h2; exact fun own4 σ4 H4 x4 S5 => ⟨own4, ρ4, x3.trans x4, S5, PostS.ext x4 h2⟩
        | bk ρ4 => rw [eb] at h2; exact fun own4 σ4 H4 x4 S5 => h2 own4 σ4 H4 x4 S5
        | rt e4 => rw [eb] at h2; exact h2
        | exc c4 ρ4 => rw [eb] at h2; exact h2
        | bad => rw [eb] at h2; exact h2.elim
end

/-! ### a def -/
def outE : Ev → Ev
  | (.fr, d) => (.fr, d)
  | (_, d) => (.cl, d)
def runB : SRes → R Ev
  | .rt e => .ok (outE e)
  | .nx _ => .ok (.cl, .non)
  | .exc c _ => .exc c
  | _ => .bad
def enter (N : Nat) (ds : List D) : Ro := ds.map (fun d => some (false, d)) ++ List.replicate (N - ds.length) none
def fnD (N n : Nat) (f : SF) : FD := fun ds => if ds.length = n then runB (f (enter N ds)) else .bad
theorem enter_sr {K : PySem.W.Frag} {hid : Addr → Prop} {H : Hp} {ds : List D} {vs : List V} {N : List Str} (hin : ∀ b, hid b → H b ≠ none) (r : RpL K (hd H hid) ds vs) : SR K hid noOwn H (enter N.length ds) (L2.start N vs) := by
  have hl := r.len
  refine ⟨by simp [enter, L2.start, hl], fun i d e => ?_, fun i d e => ?_, (fun i j a e => nomatch e), (fun i a e => nomatch e), hin⟩
  · unfold enter at e
    by_cases hi : i < ds.length
    · rw [List.getElem?_append_left (by simpa using hi), List.getElem?_map] at e
      cases ed : ds[i]? with
      | none => rw [ed] at e; cases e
      | some d' =>
        rw [ed] at e
        cases e
        obtain ⟨v, e1, e2⟩ := r.get ed
        refine ⟨v, ?_, Rp.mono hd_no _ _ e2⟩
        unfold L2.start
        rw [List.getElem?_append_left (by rw [List.length_map, hl]; exact hi), List.getElem?_map, e1]
        rfl
    · rw [List.getElem?_append_right (by simpa using hi), List.getElem?_replicate] at e
      split at e <;> cases e
  · unfold enter at e
    by_cases hi : i < ds.length
    · rw [List.getElem?_append_left (by simpa using hi), List.getElem?_map] at e
      cases ed : ds[i]? with
      | none => rw [ed] at e; cases e
      | some d' => rw [ed] at e; cases e
    · rw [List.getElem?_append_right (by simpa using hi), List.getElem?_replicate] at e
      split at e <;> cases e
theorem runB_post {K : PySem.W.Frag} {mg : Str → Option Value} {hid : Addr → Prop} {H : Hp} {Q : VK} {E : XK} {r : SRes} (h : Post K hid noOwn H (fun c H' => ∀ C, mg c = some (.ref C) → E (.ref C) none H') (runB r) Q) :
    PostS K mg (fun cls d _ H => E cls d H) hid noOwn H { nx := fun _ H' => Q .non H', rt := Q } r := by
  have sm : ∀ {own' : Own} {H' : Hp}, Ext noOwn own' H H' → Same H H' := fun x b o e => x.keep b o e fun i z => nomatch z
  cases r with
  | bad => exact h
  | bk ρ => exact h.elim
  | ct ρ => exact h.elim
  | nx ρ => exact fun own' σ' H' x S => h H' .non (sm x) rfl
  | exc c ρ => exact fun own' σ' H' x S C hC => h H' (sm x) C hC
  | rt e =>
    intro own' H' v x r
    refine h H' v (sm x) ?_
    obtain ⟨k, d⟩ := e
    cases k with
    | cl => exact Rp.mono hd_no _ _ r
    | pk => exact Rp.mono hd_no _ _ r
    | fr =>
      obtain ⟨a, e1, e2, e3, m⟩ := r
      exact ⟨a, e1, e2.elim (fun z => z) (fun ⟨i, z⟩ => nomatch z), fun z => e3 (ob_no.mp z), m.mono (hd_mono fun b o q n => ⟨q, fun z => n (z.elim (fun z => .inl (ob_no.mp z)) .inr)⟩)⟩
section
variable {P : Program} {w : World} {K : PySem.W.Frag} {mg : Str → Option Value} {base : Heap}
theorem fn_den {x qual : Str} {st : Stmt} {f : Addr} {fd : FuncData} {N ps : List Str} {k n : Nat} {fb : SF} (F : Fun K x qual st f fd) (S : FnScope N ps (defScope st)) (hn : ps.length = n)
    (hbody : ∀ (cdv : Value) (A : Around) (outer : List Env) (s : Shared) (H : Hp) (E : XK), Room k (A.deeper (PyProof.Rows.envOfC qual (defScope st) s.heap.objs.size f cdv)) → DSs (cxOf (L2.CX P w) P w K mg base N qual (defScope st) f cdv A outer s H E) (fun cls d _ H => E cls d H) (defBody st) fb) :
    FnOk P w K mg base (L2.CX P w) (k + 1) f fd ps (spD K mg n (fnD N.length n fb)) := by
  refine Fun.okX F S (fun vs H Q E ⟨hid, ds, _, r, hl, _⟩ => by rw [r.len, hl, hn]) fun cdv A outer s H vs Q E hr ⟨hid, ds, hin, r, hl, h⟩ => ?_
  refine ⟨_, hbody cdv A outer s H E hr, ?_⟩
  have e : fnD N.length n fb ds = runB (fb (enter N.length ds)) := if_pos hl
  rw [e] at h
  exact ⟨hid, noOwn, _, enter_sr hin r, runB_post h⟩
theorem fn_bad {f : Addr} {fd : FuncData} {ps : List Str} {k n : Nat} (hn : ps.length = n) : FnOk P w K mg base (L2.CX P w) k f fd ps (spD K mg n fun _ => .bad) :=
  ⟨fun vs H Q E ⟨hid, ds, _, r, hl, _⟩ => by rw [r.len, hl, hn], fun A outer s H args us vs Q E _ _ _ _ ⟨_, _, _, _, _, h⟩ => h.elim⟩
end
end PL
set_option Elab.async false
set_option linter.all false
set_option maxRecDepth 100000
set_option maxHeartbeats 4000000
/-! PL8: a text times a number; replace of written texts. -/
namespace PL
open PySem PySem.Spec L2

/-! ### a text * a number -/
def rMulS : R2 := fun x y H Q => ∃ a k, x = .str (S a) ∧ y = .int k ∧ k < 16777216 ∧ 0 ≤ k ∧ a.length * k.toNat ≤ 16777216 ∧ Q (.str (S (List.replicate k.toNat a).flatten)) H
theorem fold_rep (x : Array Nat) : ∀ (k : Nat) (acc : Array Nat), ((List.replicate k x).foldl (· ++ ·) acc).toList = acc.toList ++ (List.replicate k x.toList).flatten
  | 0, acc => by simp
  | k + 1, acc => by
    rw [List.replicate_succ, List.foldl_cons, fold_rep x k, List.replicate_succ, List.flatten_cons, Array.toList_append, List.append_assoc]
theorem op_mulS {X : Cx} : OpR X (binaryOp .Mult) rMulS := by
  intro pins s σ H x y v u Q I rx ry h
  obtain ⟨a, k, rfl, rfl, h1, h2, h3, q⟩ := h
  obtain ⟨t, rfl⟩ := rx
  obtain ⟨t', rfl⟩ := ry
  have hl : (S a).length = a.length := S_len a
  refine P.mul_str ?_ (fun k1 k2 => ?_) (fun k1 k2 => ?_) ?_
  · have e1 : ¬ k < -(2 ^ 63 : Int) := by omega
    have e2 : ¬ k ≥ 2 ^ 63 := by omega
    rw [decide_eq_false e1, decide_eq_false e2]; rfl
  · rw [hl]
    have ek : k = (k.toNat : Int) := (Int.toNat_of_nonneg h2).symm
    have hk : 0 < k := by omega
    have : (a.length : Int) ≤ (2 ^ 63 - 1) / k := by
      refine (Int.le_ediv_iff_mul_le hk).mpr ?_
      have : ((a.length * k.toNat : Nat) : Int) ≤ ((16777216 : Nat) : Int) := Int.ofNat_le.mpr h3
      rw [Int.natCast_mul, ← ek] at this
      omega
    omega
  · rw [hl]
    show decide (a.length * k.toNat > sizeLine) = false
    rw [sizeLine_eq]
    exact decide_eq_false (by omega)
  · have fin : ∀ z : Str, z = S (List.replicate k.toNat a).flatten → ∀ s' : Shared, Inv X pins σ H s' → ∀ t'', EP X pins σ Q (.str z t'') s' := fun z e s' I' t'' => ⟨.str z, H, I', ⟨t'', rfl⟩, by rw [e]; exact q⟩
    by_cases c1 : k < 1
    · rw [if_pos c1]
      have : k.toNat = 0 := by omega
      exact ⟨by decide, fin _ (by rw [this]; rfl) _ (I.tok _) _⟩
    · rw [if_neg c1]
      by_cases c2 : (k == 1 || (S a).length == 0) = true
      · rw [if_pos c2]
        refine fin _ ?_ s I t
        rw [Bool.or_eq_true, beq_iff_eq, beq_iff_eq, hl] at c2
        rcases c2 with c | c
        · rw [c]; exact congrArg S (show a = (List.replicate 1 a).flatten from (List.append_nil a).symm)
        · have : a = [] := List.length_eq_zero_iff.mp c
          subst this
          congr 1
          exact (List.flatten_eq_nil_iff.mpr fun l hl => (List.eq_of_mem_replicate hl)).symm
      · rw [if_neg c2]
        have e : (⟨(List.replicate k.toNat (S a).cps).foldl (· ++ ·) #[]⟩ : Str) = S (List.replicate k.toNat a).flatten := TL.ext_tl (by
          show ((List.replicate k.toNat (S a).cps).foldl (· ++ ·) #[]).toList = _
          rw [fold_rep, S_cps]
          exact (List.nil_append _).trans (S_cps _).symm)
        refine ⟨?_, fin _ e _ (I.tok _) _⟩
        rw [e, S_len, sizeLine_eq]
        rw [List.length_flatten, List.map_replicate, List.sum_replicate_nat]
        rw [Nat.mul_comm]; exact h3
def gMulS : D → D → R Ev
  | .str a, .int k => if k < 16777216 ∧ 0 ≤ k ∧ a.length * k.toNat ≤ 16777216 then .ok (.cl, .str (List.replicate k.toNat a).flatten) else .bad
  | _, _ => .bad
theorem opg_mulS {K : PySem.W.Frag} : OpG K rMulS gMulS := by
  intro hid own H Wx x y dx dy Q hb rx ry q
  unfold gMulS at q
  split at q
  · split at q
    · rename_i h
      exact ⟨_, _, rx, ry, h.1, h.2.1, h.2.2, q.now rfl⟩
    · exact q.elim
  · exact q.elim
section
variable {X : Cx} {W : WX} {a b : Expr} {fa fb : EF} {pos : Pos}
theorem de_mulS (ha : DE X W a fa) (hb : DE X W b fb) : DE X W (.BinOp a .Mult b pos) (op2 gMulS fa fb) := de_op op_mulS opg_mulS ha hb
end

/-! ### with one token out -/
def DET (X : Cx) (W : WX) (e : Expr) (f : EF) : Prop := PET X e (tE X.K X.mg W f)
def DST (X : Cx) (W : WX) (st : Stmt) (f : SF) : Prop := PST X st (tS X.K X.mg W f)
def DSsT (X : Cx) (W : WX) (st : List Stmt) (f : SF) : Prop := PSsT X st (tS X.K X.mg W f)
def DAT (X : Cx) (W : WX) (es : List Expr) (f : AF) : Prop := PAT X es (tA X.K X.mg W f)
theorem imp_pet {X : Cx} {e : Expr} {t t' : TE} (h : PET X e t) (k : ∀ σ H Q, t' σ H Q → t σ H Q) : PET X e t' := fun pins s σ H Q h0 I q => h pins s σ H Q h0 I (k _ _ _ q)
theorem imp_pat {X : Cx} {e : List Expr} {t t' : TA} (h : PAT X e t) (k : ∀ σ H Q, t' σ H Q → t σ H Q) : PAT X e t' := fun pos pins s σ H Q h0 I q => h pos pins s σ H Q h0 I (k _ _ _ q)
theorem imp_pst {X : Cx} {e : Stmt} {t t' : TS} (h : PST X e t) (k : ∀ D σ H, t' D σ H → t D σ H) : PST X e t' := fun pins s σ H D h0 I q => h pins s σ H D h0 I (k _ _ _ q)
theorem imp_psst {X : Cx} {e : List Stmt} {t t' : TS} (h : PSsT X e t) (k : ∀ D σ H, t' D σ H → t D σ H) : PSsT X e t' := fun pins s σ H D h0 I q => h pins s σ H D h0 I (k _ _ _ q)
def gRepl (y z : List Nat) : D → R Ev
  | .str a => if a.length + (a.length + 1) * z.length ≤ 16777216 then .ok (.cl, .str (StrLaws.replL y z a)) else .bad
  | _ => .bad
theorem repl_S {y z a : List Nat} (hy : 1 ≤ y.length) : Txt.replace (S a) (S y) (S z) = S (StrLaws.replL y z a) := TL.ext_tl (by
  show (Txt.replace (S a) (S y) (S z)).cps.toList = _
  rw [StrLaws.replace_list (by rw [S_len]; exact hy), S_cps, S_cps, S_cps]
  exact (S_cps _).symm)
theorem repl_den {X : Cx} {W : WX} {fo : EF} {ys zs : Str} {y z : List Nat} (ey : ys = S y) (ez : zs = S z) (hy : 1 ≤ y.length) : ∀ σ H Q, tE X.K X.mg W (op1 (gRepl y z) fo) σ H Q → CwR.tReplC (tE X.K X.mg W fo) ys zs σ H Q := fun σ H Q ⟨hid, own, ρ, hS, h⟩ =>
  ⟨hid, own, ρ, hS, Post.part h fun e H1 v s1 r1 h1 => by
    subst ey ez
    obtain ⟨k, d⟩ := e
    cases d with
    | str a =>
      have h1 : Post X.K hid own H1 (Wc X.mg W σ) (if a.length + (a.length + 1) * z.length ≤ 16777216 then .ok (.cl, .str (StrLaws.replL y z a)) else .bad) Q := h1
      split at h1
      · rename_i hz
        refine ⟨S a, r1.rt, by rw [S_len, S_len]; exact hz, ?_⟩
        rw [repl_S hy]
        exact h1.now rfl
      · exact h1.elim
    | _ => exact h1.elim⟩
section
variable {X : Cx} {W : WX} {o e a b : Expr} {fo fe fa fb : EF} {j k : Nat} {c0 c1 apos pos : Pos} {ys zs : Str}
theorem det_of (h : DE X W e fe) : DET X W e fe := fun pins s σ H Q _ I q => h.run pins s σ H Q I q
theorem det_repl (y z : List Nat) (ho : DET X W o fo) (ey : ys = S y := by decide +kernel) (ez : zs = S z := by decide +kernel) (hy : 1 ≤ y.length := by decide) (hyz : (ys == zs) = false := by decide)
    (hst : starEach [.Constant (.str ys) j c0, .Constant (.str zs) k c1] X.env = [(false, eval (.Constant (.str ys) j c0) X.env), (false, eval (.Constant (.str zs) k c1) X.env)] := by rfl)
    (hbase : attributeBase o "replace" X.env (eval o X.env) = eval o X.env := by rfl) (hline : (apos.endLine == pos.line) = true := by rfl) :
    DET X W (.Call (.Attribute o "replace" apos) [.Constant (.str ys) j c0, .Constant (.str zs) k c1] [] pos) (op1 (gRepl y z) fo) := imp_pet (CwR.pet_replT ho hyz hst hbase hline) (repl_den ey ez hy)
theorem det_add (ha : DET X W a fa) (hb : DET X W b fb) : DET X W (.BinOp a .Add b pos) (op2 gAdd fa fb) :=
  imp_pet (CwR.pet_op (op_add.or (op_add_str.or op_cat)) ha hb) (two (OpG.or (fun x _ => isI x) opg_I0 (OpG.or (fun x _ => isS x) opg_addS opg_addL)))
theorem dst_of {st : Stmt} {f : SF} (h : DS X W st f) : DST X W st f := fun pins s σ H D _ I q => h.run pins s σ H D I q
theorem dsst_of {st : List Stmt} {f : SF} (h : DSs X W st f) : DSsT X W st f := fun pins s σ H D _ I q => h.run pins s σ H D I q
theorem dsst_cons {st : Stmt} {sts : List Stmt} {f g : SF} (h1 : DST X W st f) (h2 : DSsT X W sts g) : DSsT X W (st :: sts) (sSeq f g) := imp_psst (psst_cons h1 h2) seqD
theorem dst_ret (he : DET X W e fe) : DST X W (.Return (some e) pos) (sRet fe) :=
  imp_pst (CwR.pst_ret he) fun D σ H ⟨hid, own, ρ, hS, h⟩ => ⟨hid, own, ρ, hS, PostS.part hS h fun x H1 v s1 r1 h1 => h1 own H1 v (Ext.same s1) (RX.of r1)⟩
theorem dst_set (i : Nat) {x : Str} {pos' : Pos} (hN : X.N.Nodup) (hi : X.N[i]? = some x) (hx : Loc X.env.scope x) (he : DET X W e fe) (hs : swapsWith e (some (.Name x pos')) pos.line X.env = pure false := by rfl) (hf : X.fn x = true ∨ X.env.scope.names.lookup x = some .local := by first | exact .inl rfl | exact .inr rfl | assumption) :
    DST X W (.Assign [.Name x pos'] e pos) (sSet i fe) := by
  intro pins s σ H D h0 I ⟨hid, own, ρ, hS, h⟩
  refine wpAny_Assign_Name (thn (he pins s σ H _ h0 I ⟨hid, own, ρ, hS, PostS.part (T := fun v H1 => D.nx (σ.set i (some v)) H1) hS h fun x H1 v s1 r1 h1 => setSl_ok hS s1 r1 h1⟩) fun v s1 ⟨y, H1, I1, r1, q1⟩ => ?_) hs
  exact store_ok I1 hN hi hx r1 (fun s2 I2 => ⟨_, H1, I2, q1⟩) hf
end
section
variable {P : Program} {w : World} {K : PySem.W.Frag} {mg : Str → Option Value} {base : Heap}
theorem fn_denT {x qual : Str} {st : Stmt} {f : Addr} {fd : FuncData} {N ps : List Str} {k n : Nat} {fb : SF} (F : Fun K x qual st f fd) (S : FnScope N ps (defScope st)) (hn : ps.length = n) (hnc : ∀ y ∈ (defScope st).names, y.2 ≠ .cell) (h1 : 1 ≤ n)
    (hbody : ∀ (cdv : Value) (A : Around) (outer : List Env) (s : Shared) (H : Hp) (E : XK), Room k (A.deeper (PyProof.Rows.envOfC qual (defScope st) s.heap.objs.size f cdv)) → DSsT (cxOf (L2.CX P w) P w K mg base N qual (defScope st) f cdv A outer s H E) (fun cls d _ H => E cls d H) (defBody st) fb) :
    FnOk P w K mg base (L2.CX P w) (k + 1) f fd ps (spD K mg n (fnD N.length n fb)) := by
  obtain ⟨oc, od, kV, doc, pm, an, cdv, ct, osl, rfl, lk, hcd⟩ := F.ex
  refine fn_ofT lk hcd S hnc (by rw [hn]; exact h1) (fun vs H Q E ⟨hid, ds, _, r, hl, _⟩ => by rw [r.len, hl, hn]) fun A outer s H vs Q E hr ⟨hid, ds, hin, r, hl, h⟩ => ?_
  refine ⟨_, hbody cdv A outer s H E hr, ?_⟩
  have e : fnD N.length n fb ds = runB (fb (enter N.length ds)) := if_pos hl
  rw [e] at h
  exact ⟨hid, noOwn, _, enter_sr hin r, runB_post h⟩
end
end PL
set_option Elab.async false
set_option linter.all false
set_option maxRecDepth 100000
set_option maxHeartbeats 4000000
/-! PL9: the built-in functions by name. -/
namespace PL
open PySem PySem.Spec L2
theorem bt_len : bootBuiltins "len" = some (.builtin "len") := by decide +kernel
theorem bt_int : bootBuiltins "int" = some (.type "int") := by decide +kernel
theorem bt_str : bootBuiltins "str" = some (.type "str") := by decide +kernel
theorem bt_ord : bootBuiltins "ord" = some (.builtin "ord") := by decide +kernel
theorem bt_sum : bootBuiltins "sum" = some (.builtin "sum") := by decide +kernel
theorem bt_all : bootBuiltins "all" = some (.builtin "all") := by decide +kernel
theorem bt_any : bootBuiltins "any" = some (.builtin "any") := by decide +kernel
theorem bt_list : bootBuiltins "list" = some (.type "list") := by decide +kernel
theorem bt_tuple : bootBuiltins "tuple" = some (.type "tuple") := by decide +kernel
theorem bt_max : bootBuiltins "max" = some (.builtin "max") := by decide +kernel
theorem bt_bool : bootBuiltins "bool" = some (.type "bool") := by decide +kernel
theorem bt_isi : bootBuiltins "isinstance" = some (.builtin "isinstance") := by decide +kernel
section
variable {X : Cx} {W : WX} {e e' : Expr} {fa fb : EF} {p pos q : Pos}
theorem de_len (hg : Gl X "len") (hm : X.mg "len" = none) (ha : DE X W e fa) (hs : starEach [e] X.env = (false, eval e X.env) :: starEach [] X.env := by rfl) : DE X W (.Call (.Name "len" p) [e] [] pos) (op1 gLen fa) := de_callB call_len cg_len hg hm bt_len ha hs
theorem de_intc (hg : Gl X "int") (hm : X.mg "int" = none) (ha : DE X W e fa) (hs : starEach [e] X.env = (false, eval e X.env) :: starEach [] X.env := by rfl) : DE X W (.Call (.Name "int" p) [e] [] pos) (op1 gInt fa) := de_callT call_int1 cg_int hg hm bt_int ha hs
theorem de_strc (hg : Gl X "str") (hm : X.mg "str" = none) (ha : DE X W e fa) (hs : starEach [e] X.env = (false, eval e X.env) :: starEach [] X.env := by rfl) : DE X W (.Call (.Name "str" p) [e] [] pos) (op1 gStr fa) := de_callT call_str_int cg_str hg hm bt_str ha hs
theorem de_ord (hg : Gl X "ord") (hm : X.mg "ord" = none) (ha : DE X W e fa) (hs : starEach [e] X.env = (false, eval e X.env) :: starEach [] X.env := by rfl) : DE X W (.Call (.Name "ord" p) [e] [] pos) (op1 gOrd fa) := de_callB call_ord cg_ord hg hm bt_ord ha hs
theorem de_sum (hc : X.calm = true) (hg : Gl X "sum") (hm : X.mg "sum" = none) (ha : DE X W e fa) (hs : starEach [e] X.env = (false, eval e X.env) :: starEach [] X.env := by rfl) : DE X W (.Call (.Name "sum" p) [e] [] pos) (op1 gSum fa) := de_callB (cr_sum hc) cg_sum hg hm bt_sum ha hs
theorem de_listc (hg : Gl X "list") (hm : X.mg "list" = none) (ha : DE X W e fa) (hs : starEach [e] X.env = (false, eval e X.env) :: starEach [] X.env := by rfl) : DE X W (.Call (.Name "list" p) [e] [] pos) (op1 gList fa) := de_callT call_list_of cg_list hg hm bt_list ha hs
theorem de_tuplec (hg : Gl X "tuple") (hm : X.mg "tuple" = none) (ha : DE X W e fa) (hs : starEach [e] X.env = (false, eval e X.env) :: starEach [] X.env := by rfl) : DE X W (.Call (.Name "tuple" p) [e] [] pos) (op1 gTuple fa) := de_callT call_tuple_of cg_tuple hg hm bt_tuple ha hs
theorem de_max2 (hc : X.calm = true) (hg : Gl X "max") (hm : X.mg "max" = none) (ha : DE X W e fa) (hb : DE X W e' fb) (hs : starEach [e, e'] X.env = (false, eval e X.env) :: starEach [e'] X.env := by rfl) (hs' : starEach [e'] X.env = (false, eval e' X.env) :: starEach [] X.env := by rfl)
    (hpl : (backTo pos (starEach [e'] X.env)).any (·.1) = false := by rfl) : DE X W (.Call (.Name "max" p) [e, e'] [] pos) (op2 gMax2 fa fb) := de_callB2 (call_max2 hc) cg_max2 hg hm bt_max ha hb hs hs' hpl
theorem de_all (hc : X.calm = true) (hg : Gl X "all") (hm : X.mg "all" = none) (ha : DE X W e fa) (hs : starEach [e] X.env = (false, eval e X.env) :: starEach [] X.env := by rfl) : DE X W (.Call (.Name "all" p) [e] [] pos) (op1 (gAllAny true) fa) := de_callB (cr_all hc) cg_all hg hm bt_all ha hs
theorem de_any (hc : X.calm = true) (hg : Gl X "any") (hm : X.mg "any" = none) (ha : DE X W e fa) (hs : starEach [e] X.env = (false, eval e X.env) :: starEach [] X.env := by rfl) : DE X W (.Call (.Name "any" p) [e] [] pos) (op1 (gAllAny false) fa) := de_callB (cr_any hc) cg_any hg hm bt_any ha hs
theorem k_list : ∀ d, kitB (dty d) "list" = some (inst "list" d) := kit_all "list" (by decide +kernel)
theorem k_tuple : ∀ d, kitB (dty d) "tuple" = some (inst "tuple" d) := kit_all "tuple" (by decide +kernel)
theorem k_bool : ∀ d, kitB (dty d) "bool" = some (inst "bool" d) := kit_all "bool" (by decide +kernel)
theorem k_int : ∀ d, kitB (dty d) "int" = some (inst "int" d) := kit_all "int" (by decide +kernel)
theorem k_str : ∀ d, kitB (dty d) "str" = some (inst "str" d) := kit_all "str" (by decide +kernel)
end
theorem un_of {A : Around} {k : Nat} (hr : Room k A) : A.units + 64 < cLine := Nat.lt_of_le_of_lt (by omega) hr.un
end PL
set_option Elab.async false
set_option linter.all false
set_option maxRecDepth 100000
set_option maxHeartbeats 4000000
/-! PE1: what denotations answer: rules with side conditions. -/
namespace PL
open PySem PySem.Spec L2

section
variable {ρ : Ro} {fa fb : EF} {k k1 k2 : Kd} {x y : D} {r : R Ev}
theorem lcF_ok {f : IF} {vs : List Nat} {g : GF} {tt : TF} {el : EF} {p : Bool × List D} {ys : List D} (hf : f ρ = .ok p) (hz : p.2.length ≤ 16777216) (hl : lcA (turnD g tt el (wipeR ρ vs)) p.2 = .ok ys) : lcF f vs g tt el ρ = .ok (.fr, .lst ys) := by
  unfold lcF
  rw [hf]
  show (if p.2.length ≤ 16777216 then _ else _) = _
  rw [if_pos hz, hl]
  rfl
theorem lcA_all {h : D → R (Option D)} {g : D → D} : ∀ {ds : List D}, (∀ d ∈ ds, h d = .ok (some (g d))) → lcA h ds = .ok (ds.map g)
  | [], _ => rfl
  | d :: ds, q => by
    unfold lcA
    rw [q d List.mem_cons_self, lcA_all fun e he => q e (List.mem_cons_of_mem _ he)]
    rfl
theorem lcA_map {α : Type} {h : D → R (Option D)} {k : α → D} {g : α → D} : ∀ {xs : List α}, (∀ a ∈ xs, h (k a) = .ok (some (g a))) → lcA h (xs.map k) = .ok (xs.map g)
  | [], _ => rfl
  | a :: xs, q => by
    rw [List.map_cons, List.map_cons]
    unfold lcA
    rw [q a List.mem_cons_self, lcA_map fun e he => q e (List.mem_cons_of_mem _ he)]
    rfl
theorem lcA_sift {α : Type} {h : D → R (Option D)} {k : α → D} {g : α → D} {p : α → Bool} : ∀ {xs : List α}, (∀ a ∈ xs, h (k a) = .ok (if p a = true then some (g a) else none)) → lcA h (xs.map k) = .ok ((xs.filter p).map g)
  | [], _ => rfl
  | a :: xs, q => by
    rw [List.map_cons]
    unfold lcA
    rw [q a List.mem_cons_self, lcA_sift fun e he => q e (List.mem_cons_of_mem _ he)]
    cases c : p a with
    | true => rw [List.filter_cons_of_pos c]; rfl
    | false => rw [List.filter_cons_of_neg (by rw [c]; exact Bool.false_ne_true)]; rfl
/-- a turn of a comprehension -/
theorem turn_ok {g : GF} {tt : TF} {el : EF} {ρ0 ρ1 : Ro} {d : D} {e : Ev} (hg : g d ρ0 = some ρ1) (ht : tt ρ1 = .ok true) (he : el ρ1 = .ok e) (hk : okE e = true) : turnD g tt el ρ0 d = .ok (some e.2) := by
  unfold turnD
  simp only [hg, ht, he, hk, R.calm_ok, R.bind_ok, if_true]
theorem turn_no {g : GF} {tt : TF} {el : EF} {ρ0 ρ1 : Ro} {d : D} (hg : g d ρ0 = some ρ1) (ht : tt ρ1 = .ok false) : turnD g tt el ρ0 d = .ok none := by
  unfold turnD
  simp only [hg, ht, R.calm_ok, R.bind_ok, Bool.false_eq_true, if_false]
theorem op2_ok {g : D → D → R Ev} (ha : fa ρ = .ok (k1, x)) (hb : fb ρ = .ok (k2, y)) (hg : g x y = r) : op2 g fa fb ρ = r := by
  unfold op2; rw [ha, R.bind_ok, hb, R.bind_ok]; exact hg
theorem op1_ok {g : D → R Ev} (ha : fa ρ = .ok (k1, x)) (hg : g x = r) : op1 g fa ρ = r := by
  unfold op1; rw [ha, R.bind_ok]; exact hg
theorem mth1_ok {g : D → D → R Ev} {a : List Nat} (ha : fa ρ = .ok (k1, .str a)) (hb : fb ρ = .ok (k2, y)) (hg : g (.str a) y = r) : mth1 g fa fb ρ = r := by
  unfold mth1; rw [ha, R.bind_ok]
  show (if true = true then _ else _) = _
  rw [if_pos rfl, hb, R.bind_ok]; exact hg
theorem t2_ok {g : D → D → R Ev} {b : Bool} (ha : fa ρ = .ok (k1, x)) (hb : fb ρ = .ok (k2, y)) (hg : g x y = .ok (k, .bl b)) : t2 g fa fb ρ = .ok b := by
  unfold t2; rw [op2_ok ha hb hg]; rfl
theorem gAdd_s {a b : List Nat} (h : a.length + b.length ≤ 16777216) : gAdd (.str a) (.str b) = .ok (.cl, .str (a ++ b)) := by rw [gAdd_str, if_pos h]
theorem gAdd_l {a b : List D} (h : a.length + b.length ≤ 16777216) : gAdd (.lst a) (.lst b) = .ok (.fr, .lst (a ++ b)) := by rw [gAdd_lst, if_pos h]
theorem gLen_s {a : List Nat} (h : a.length ≤ 16777216) : gLen (.str a) = .ok (.cl, .int a.length) := if_pos h
theorem gSl_s {a : List Nat} {lo hi : Option Int} (h : a.length ≤ 16777216) : gSl (.str a) lo hi = .ok (.cl, .str (cutL a lo hi)) := if_pos h
theorem gTru_s {a : List Nat} (h : a.length ≤ 16777216) : gTru (.str a) = .ok (!a.isEmpty) := if_pos h
theorem gMul_i {i j : Int} (h : -(2 ^ 64) < j ∧ j < 2 ^ 64) : gMulI (.int i) (.int j) = .ok (.cl, .int (i * j)) := if_pos (by
  unfold cMul
  rw [Bool.or_eq_true, decide_eq_true_eq, decide_eq_true_eq]
  exact .inr h)
theorem gMul_i' {i j : Int} (h : -(2 ^ 64) < i ∧ i < 2 ^ 64) : gMulI (.int i) (.int j) = .ok (.cl, .int (i * j)) := if_pos (by
  unfold cMul
  rw [Bool.or_eq_true, decide_eq_true_eq, decide_eq_true_eq]
  exact .inl h)
theorem gMod_i {i j : Int} (h : 0 < j) : gMod (.int i) (.int j) = .ok (.cl, .int (i % j)) := if_pos (decide_eq_true h)
theorem gFdiv_i {i j : Int} (h : 0 < j ∧ j < 1073741824) : gFdiv (.int i) (.int j) = .ok (.cl, .int (i / j)) := if_pos (decide_eq_true h)
theorem gPow_i {i j : Int} (h : 0 ≤ j ∧ j ≤ 1000000 ∧ i.natAbs < 2 ^ 64) : gPow (.int i) (.int j) = .ok (.cl, .int (i ^ j.toNat)) := if_pos (decide_eq_true h)
theorem gSub_i {i j : Int} : gSub (.int i) (.int j) = .ok (.cl, .int (i - j)) := rfl
theorem gAdd_i {i j : Int} : gAdd (.int i) (.int j) = .ok (.cl, .int (i + j)) := rfl
theorem gMulS_ok {a : List Nat} {n : Nat} (h : n < 16777216 ∧ a.length * n ≤ 16777216) : gMulS (.str a) (.int n) = .ok (.cl, .str (List.replicate n a).flatten) := by
  show (if (n : Int) < 16777216 ∧ 0 ≤ (n : Int) ∧ a.length * (n : Int).toNat ≤ 16777216 then R.ok (Kd.cl, D.str (List.replicate (n : Int).toNat a).flatten) else .bad) = _
  rw [Int.toNat_natCast, if_pos ⟨by omega, Int.natCast_nonneg n, h.2⟩]
theorem nn64 {n : Nat} (h : n < 2 ^ 64) : 0 ≤ (n : Int) ∧ (n : Int) < 2 ^ 64 := ⟨Int.natCast_nonneg n, by omega⟩
theorem gStr_ok {n : Nat} (h : n < 2 ^ 64) : gStr (.int n) = .ok (.cl, .str (TL.numL n)) := by
  have q := nn64 h
  unfold gStr
  simp only [q, and_self, if_true, Int.toNat_natCast]
theorem gSplit_ok {a b : List Nat} (h : a.length + 2 ≤ 16777216) (hb : b ≠ []) (hk : all256 b = true) : gSplit (.str a) (.str b) = .ok (.fr, .lst ((TL.spl b 0 [] a).map D.str)) := if_pos ⟨h, hb, hk⟩
theorem gPart_ok {a b : List Nat} (h : a.length ≤ 16777216) (hb : b ≠ []) : gPart (.str a) (.str b) = .ok (.cl, match TL.par b [] a with
      | some (p, q) => .tup [.str p, .str b, .str q]
      | none => .tup [.str a, .str [], .str []]) := if_pos ⟨h, hb⟩
theorem gJoin_l {a : List Nat} {ns : List (List Nat)} (h : joinSize a ns ≤ 16777216) : gJoin (.str a) (.lst (ns.map D.str)) = .ok (.cl, .str (TL.joinL a ns)) := by
  show joinR a (ns.map D.str) = _
  unfold joinR
  rw [unS_map]
  exact if_pos h
theorem gRepl_ok {y z a : List Nat} (h : a.length + (a.length + 1) * z.length ≤ 16777216) : gRepl y z (.str a) = .ok (.cl, .str (StrLaws.replL y z a)) := if_pos h
theorem fFmt_s {a : List Nat} (ha : fa ρ = .ok (k, .str a)) (h : a.length ≤ 16777216) : fFmt fa ρ = .ok (.cl, .str a) := op1_ok ha (if_pos h)
theorem fFmt_i {n : Nat} (ha : fa ρ = .ok (k, .int n)) (h : n < 2 ^ 64) : fFmt fa ρ = .ok (.cl, .str (TL.numL n)) := op1_ok ha (by
  show (if 0 ≤ (n : Int) ∧ (n : Int) < 2 ^ 64 then R.ok (Kd.cl, D.str (TL.numL (n : Int).toNat)) else .bad) = _
  rw [Int.toNat_natCast]
  exact if_pos (nn64 h))
theorem eFs_cons {f : EF} {fs : List EF} {acc y : List Nat} (hf : f ρ = .ok (k, .str y)) (h : (acc ++ y).length ≤ 16777216) : eFs (f :: fs) acc ρ = eFs fs (acc ++ y) ρ := by
  show (f ρ).bind _ = _
  rw [hf]
  exact if_pos h
theorem eFs_nil {acc : List Nat} : eFs [] acc ρ = .ok (.cl, .str acc) := rfl
/-! subscripts -/
theorem ixN_nat {n i : Nat} (h : i < n) : ixN n (i : Int) = some i := by
  unfold ixN
  rw [if_pos (by omega), if_pos (by omega)]
  rfl
theorem atI_nat' {α : Type} {xs : List α} {i : Nat} {a : α} (h : xs[i]? = some a) : atI xs (i : Int) = some a := by
  unfold atI
  rw [ixN_nat (List.getElem?_eq_some_iff.mp h).1]
  exact h
theorem gIx_l {xs : List D} {i : Nat} {d : D} (h : xs[i]? = some d) : gIx (.lst xs) (.int i) = .ok (.cl, d) := by
  show (match atI xs (i : Int) with | some d => R.ok (Kd.cl, d) | none => .bad) = _
  rw [atI_nat' h]
theorem gIx_r {xs : List D} {i : Nat} {d : D} (h : xs[i]? = some d) : gIx (.rol xs) (.int i) = .ok (.cl, d) := by
  show (match atI xs (i : Int) with | some d => R.ok (Kd.cl, d) | none => .bad) = _
  rw [atI_nat' h]
theorem gIx_t {xs : List D} {i : Nat} {d : D} (h : xs[i]? = some d) : gIx (.tup xs) (.int i) = .ok (.cl, d) := by
  show (match atI xs (i : Int) with | some d => R.ok (Kd.cl, d) | none => .bad) = _
  rw [atI_nat' h]
theorem gIx_s {xs : List Nat} {i c : Nat} (hz : xs.length ≤ 16777216) (h : xs[i]? = some c) : gIx (.str xs) (.int i) = .ok (.cl, .str [c]) := by
  show (if xs.length ≤ 16777216 then (match atI xs (i : Int) with | some c => R.ok (Kd.cl, D.str [c]) | none => .bad) else .bad) = _
  rw [if_pos hz, atI_nat' h]
/-! slices -/
theorem sIx_n (n d i : Nat) : HT.sIx n d (some (i : Int)) = min i n := HT.sIx_nat n d i
theorem cut_to {α : Type} (xs : List α) (i : Nat) : cutL xs (some 0) (some (i : Int)) = xs.take i := by
  unfold cutL
  rw [sIx_n, show HT.sIx xs.length 0 (some (0 : Int)) = min 0 xs.length from HT.sIx_nat xs.length 0 0, Nat.zero_min, List.drop_zero, Nat.sub_zero]
  by_cases h : i ≤ xs.length
  · rw [Nat.min_eq_left h]
  · rw [Nat.min_eq_right (by omega), List.take_of_length_le (Nat.le_refl _), List.take_of_length_le (by omega)]
theorem cut_from {α : Type} (xs : List α) (i : Nat) : cutL xs (some (i : Int)) none = xs.drop i := by
  unfold cutL
  rw [sIx_n, HT.sIx_none]
  by_cases h : i ≤ xs.length
  · rw [Nat.min_eq_left h, List.take_of_length_le (by rw [List.length_drop]; exact Nat.le_refl _)]
  · rw [Nat.min_eq_right (by omega), List.drop_length, List.drop_eq_nil_of_le (by omega), List.take_nil]
theorem cut_mid {α : Type} (xs : List α) (i j : Nat) : cutL xs (some (i : Int)) (some (j : Int)) = (xs.take j).drop i := by
  unfold cutL
  rw [sIx_n, sIx_n, List.drop_take]
  by_cases h : i ≤ xs.length
  · rw [Nat.min_eq_left h]
    by_cases h2 : j ≤ xs.length
    · rw [Nat.min_eq_left h2]
    · rw [Nat.min_eq_right (by omega : xs.length ≤ j), List.take_of_length_le (by rw [List.length_drop]; exact Nat.le_refl _), List.take_of_length_le (by rw [List.length_drop]; omega)]
  · rw [Nat.min_eq_right (by omega : xs.length ≤ i), List.drop_length, List.drop_eq_nil_of_le (by omega : xs.length ≤ i), List.take_nil, List.take_nil]
theorem cut_init {α : Type} (xs : List α) : cutL xs none (some (-1)) = xs.dropLast := by
  unfold cutL
  rw [HT.sIx_none]
  have : HT.sIx xs.length xs.length (some (-1)) = xs.length - 1 := by
    unfold HT.sIx
    cases xs with
    | nil => rfl
    | cons a r => simp; omega
  rw [this, List.drop_zero, Nat.sub_zero, List.dropLast_eq_take]
theorem cut_len {α : Type} (xs : List α) (lo hi : Option Int) : (cutL xs lo hi).length ≤ xs.length := by
  unfold cutL
  rw [List.length_take, List.length_drop]
  omega
/-! calls -/
theorem eCall_ok {f : FD} {n : Nat} {fs : AF} {es : List Ev} {ds : List D} {r : Ev} (ha : fs ρ = .ok es) (hd : es.map (·.2) = ds) (hn : es.length = n) (hf : f ds = .ok r) (hl : noLE r = true) : eCall f n fs ρ = .ok r := by
  subst hd
  unfold eCall
  rw [ha, R.bind_ok, if_pos hn, hf]
  cases es.any pkL with
  | true => rw [if_pos rfl]; exact if_pos hl
  | false => rw [if_neg Bool.false_ne_true]
theorem fn_ok {N n : Nat} {f : SF} {ds : List D} {ρ0 : Ro} {s : SRes} {q : R Ev} (hn : ds.length = n) (he : enter N ds = ρ0) (hb : f ρ0 = s) (hr : runB s = q) : fnD N n f ds = q := by
  unfold fnD
  rw [if_pos hn, he, hb, hr]
theorem sRet_ok {e : Ev} (h : fa ρ = .ok e) : sRet fa ρ = .rt e := by unfold sRet; rw [h]; rfl
theorem sRetV_l {i : Nat} {d : D} (h : ρ[i]? = some (some (true, d))) : sRetV i ρ = .rt (.fr, d) := by unfold sRetV; rw [h]
theorem sSet_f {i : Nat} {d : D} (h : fa ρ = .ok (.fr, d)) (hi : i < ρ.length) : sSet i fa ρ = .nx (ρ.set i (some (true, d))) := by unfold sSet; rw [h]; exact if_pos hi
theorem sSet_c {i : Nat} {d : D} (h : fa ρ = .ok (.cl, d)) : sSet i fa ρ = .nx (ρ.set i (some (false, d))) := by unfold sSet; rw [h]; rfl
theorem sSeq_n {f g : SF} {ρ1 : Ro} {s : SRes} (h : f ρ = .nx ρ1) (k : g ρ1 = s) : sSeq f g ρ = s := by unfold sSeq; rw [h]; exact k
theorem sSeq_r {f g : SF} {e : Ev} (h : f ρ = .rt e) : sSeq f g ρ = .rt e := by unfold sSeq; rw [h]
theorem sIf_t {t : TF} {f g : SF} {s : SRes} (h : t ρ = .ok true) (k : f ρ = s) : sIf t f g ρ = s := by unfold sIf; rw [h]; exact k
theorem sIf_f {t : TF} {f g : SF} {s : SRes} (h : t ρ = .ok false) (k : g ρ = s) : sIf t f g ρ = s := by unfold sIf; rw [h]; exact k
theorem sApp_ok {i : Nat} {ds : List D} {e : Ev} (hr : ρ[i]? = some (some (true, .lst ds))) (h : fa ρ = .ok e) (hk : okE e = true) (hz : ds.length < 16777216) : sApp i fa ρ = .nx (ρ.set i (some (true, .lst (ds ++ [e.2])))) := by
  unfold sApp; rw [hr]
  show sOf (fa ρ) ρ _ = _
  rw [h]
  exact if_pos ⟨hk, hz⟩
theorem sFor_ok {fi : IF} {g : GF} {fb : SF} {ds : List D} {s : SRes} (h : fi ρ = .ok (false, ds)) (k : forL g fb ds ρ = s) : sFor fi g fb ρ = s := by unfold sFor; rw [h]; exact k
theorem forL_n {g : GF} {fb : SF} {d : D} {ds : List D} {ρ1 ρ2 : Ro} {s : SRes} (hg : g d ρ = some ρ1) (hb : fb ρ1 = .nx ρ2) (k : forL g fb ds ρ2 = s) : forL g fb (d :: ds) ρ = s := by
  unfold forL; rw [hg]
  show (match fb ρ1 with | .nx ρ2 => forL g fb ds ρ2 | .ct ρ2 => forL g fb ds ρ2 | .bk ρ2 => .nx ρ2 | r => r) = s
  rw [hb]; exact k
theorem forL_r {g : GF} {fb : SF} {d : D} {ds : List D} {ρ1 : Ro} {e : Ev} (hg : g d ρ = some ρ1) (hb : fb ρ1 = .rt e) : forL g fb (d :: ds) ρ = .rt e := by
  unfold forL; rw [hg]
  show (match fb ρ1 with | .nx ρ2 => forL g fb ds ρ2 | .ct ρ2 => forL g fb ds ρ2 | .bk ρ2 => .nx ρ2 | r => r) = _
  rw [hb]
theorem tAnd_t {t u : TF} {b : Bool} (h : t ρ = .ok true) (k : u ρ = .ok b) : tAndF t u ρ = .ok b := by unfold tAndF; rw [h, R.bind_ok, if_pos rfl, k]
theorem tAnd_f {t u : TF} (h : t ρ = .ok false) : tAndF t u ρ = .ok false := by unfold tAndF; rw [h, R.bind_ok, if_neg Bool.false_ne_true]
theorem tOr_t {t u : TF} (h : t ρ = .ok true) : tOrF t u ρ = .ok true := by unfold tOrF; rw [h, R.bind_ok, if_pos rfl]
theorem tOr_f {t u : TF} {b : Bool} (h : t ρ = .ok false) (k : u ρ = .ok b) : tOrF t u ρ = .ok b := by unfold tOrF; rw [h, R.bind_ok, if_neg Bool.false_ne_true, k]
theorem tOr_ok {t u : TF} {a b : Bool} (h : t ρ = .ok a) (k : u ρ = .ok b) : tOrF t u ρ = .ok (a || b) := by cases a; exact tOr_f h k; exact tOr_t h
theorem tNot_ok {t : TF} {b : Bool} (h : t ρ = .ok b) : tNotF t ρ = .ok (!b) := by unfold tNotF; rw [h, R.bind_ok]
theorem tVal_b {b : Bool} (h : fa ρ = .ok (k, .bl b)) : tVal fa ρ = .ok b := by unfold tVal; rw [h, R.bind_ok]; rfl
theorem eIf_t {t : TF} {q : R Ev} (h : t ρ = .ok true) (k : fa ρ = q) : eIf t fa fb ρ = q := by unfold eIf; rw [h, R.bind_ok, if_pos rfl, k]
theorem eIf_f {t : TF} {q : R Ev} (h : t ρ = .ok false) (k : fb ρ = q) : eIf t fa fb ρ = q := by unfold eIf; rw [h, R.bind_ok, if_neg Bool.false_ne_true, k]
theorem gEq_s {a b : List Nat} : gEq (.str a) (.str b) = .ok (.cl, .bl (a == b)) := rfl
theorem gNe_s {a b : List Nat} : gNe (.str a) (.str b) = .ok (.cl, .bl (!(a == b))) := rfl
theorem gEq_i {a b : Int} : gEq (.int a) (.int b) = .ok (.cl, .bl (a == b)) := rfl
theorem gNe_i {a b : Int} : gNe (.int a) (.int b) = .ok (.cl, .bl (!(a == b))) := rfl
theorem aCons_ok {fs : AF} {e : Ev} {es : List Ev} (ha : fa ρ = .ok e) (hs : fs ρ = .ok es) : aCons fa fs ρ = .ok (e :: es) := by
  unfold aCons; rw [ha, R.bind_ok, hs, R.bind_ok]
theorem disp_ok {mk : List D → Ev} {fs : AF} {es : List Ev} {ds : List D} (hs : fs ρ = .ok es) (hk : es.all okE = true) (hn : es.length ≤ 16777216) (hd : es.map (·.2) = ds) : disp mk fs ρ = .ok (mk ds) := by
  subst hd
  unfold disp; rw [hs, R.bind_ok]
  exact if_pos ⟨hk, hn⟩
theorem noLs_strs (ns : List (List Nat)) : noLs (ns.map D.str) = true := by
  induction ns with
  | nil => rfl
  | cons n r ih =>
    show (noL (.str n) && noLs (r.map D.str)) = true
    rw [ih]; rfl
theorem noLs_ints (ns : List Int) : noLs (ns.map D.int) = true := by
  induction ns with
  | nil => rfl
  | cons n r ih =>
    show (noL (.int n) && noLs (r.map D.int)) = true
    rw [ih]; rfl
end
end PL
set_option Elab.async false
set_option linter.all false
set_option maxRecDepth 100000
set_option maxHeartbeats 4000000
/-! PL10: membership, find, index, written dicts, raise. -/
namespace PL
open PySem PySem.Spec L2 He

/-! ### in, not in -/
def gInS (neg : Bool) : D → D → R Ev
  | .str [c], .str z => .ok (.cl, .bl (if neg then !decide (c ∈ z) else decide (c ∈ z)))
  | _, _ => .bad
theorem S1 (c : Nat) : (⟨#[c]⟩ : Str) = S [c] := rfl
theorem opg_inS {K : PySem.W.Frag} : OpG K (fun x y H Q => ∃ (c : Nat) (z : Str), x = .str ⟨#[c]⟩ ∧ y = .str z ∧ Q (.bl (decide (c ∈ z.cps.toList))) H) (gInS false) := by
  intro hid own H Wx x y dx dy Q hb rx ry q
  unfold gInS at q
  split at q
  · rename_i c z
    exact ⟨c, S z, rx, ry, q.now (by rw [S_cps]; rfl)⟩
  · exact q.elim
theorem opg_ninS {K : PySem.W.Frag} : OpG K (fun x y H Q => ∃ (c : Nat) (z : Str), x = .str ⟨#[c]⟩ ∧ y = .str z ∧ Q (.bl (!decide (c ∈ z.cps.toList))) H) (gInS true) := by
  intro hid own H Wx x y dx dy Q hb rx ry q
  unfold gInS at q
  split at q
  · rename_i c z
    exact ⟨c, S z, rx, ry, q.now (by rw [S_cps]; rfl)⟩
  · exact q.elim
def gInL (neg : Bool) : D → D → R Ev
  | .str x, .lst ds => match unS ds with
    | some ns => .ok (.cl, .bl (if neg then !ns.contains x else ns.contains x))
    | none => .bad
  | _, _ => .bad
theorem inV_strs (x : List Nat) : ∀ ns : List (List Nat), inV (.str (S x)) ((ns.map S).map V.str) = ns.contains x
  | [] => rfl
  | n :: r => by
    have ih := inV_strs x r
    unfold inV at ih ⊢
    rw [List.map_cons, List.map_cons, List.any_cons, ih, List.contains_cons]
    congr 1
    show (S n == S x) = (x == n)
    rw [Bool.eq_iff_iff, beq_iff_eq, beq_iff_eq]
    exact ⟨fun h => (S_inj h).symm, fun h => by rw [h]⟩
theorem flat_strs : ∀ ns : List (List Nat), ((ns.map S).map V.str).all flatV = true
  | [] => rfl
  | n :: r => by
    rw [List.map_cons, List.map_cons, List.all_cons, flat_strs r]
    rfl
theorem opg_inL {K : PySem.W.Frag} {neg : Bool} : OpG K (rIn K neg) (gInL neg) := by
  intro hid own H Wx x y dx dy Q hb rx ry q
  unfold gInL at q
  split at q
  · rename_i z ds
    split at q
    · rename_i ns en
      obtain ⟨a, vs, e1, e2, e3⟩ := ry
      rw [unS_some en] at e3
      have := e3.strs
      subst this
      refine ⟨a, _, e1, .inl (SqL.of (hd_le _ _ e2)), by rw [show x = _ from rx]; rfl, flat_strs ns, ?_⟩
      rw [show x = _ from rx, inV_strs]
      exact q.now rfl
    · exact q.elim
  · exact q.elim
def gIn (neg : Bool) : D → D → R Ev := fun x y => if isS y = true then gInS neg x y else gInL neg x y
section
variable {X : Cx} {W : WX} {a b : Expr} {fa fb : EF} {pos : Pos}
theorem de_in (ha : DE X W a fa) (hb : DE X W b fb) (hm : behindInMarks .In b = false := by rfl) : DE X W (.Compare a [.In] [b] pos) (op2 (gIn false) fa fb) := de_cmp (op_in_sign.or op_in_seq) (OpG.or (fun _ y => isS y) opg_inS opg_inL) ha hb hm
theorem de_nin (ha : DE X W a fa) (hb : DE X W b fb) (hm : behindInMarks .NotIn b = false := by rfl) : DE X W (.Compare a [.NotIn] [b] pos) (op2 (gIn true) fa fb) := de_cmp (op_notIn_sign.or op_notIn_seq) (OpG.or (fun _ y => isS y) opg_ninS opg_inL) ha hb hm
theorem dt_in (ha : DE X W a fa) (hb : DE X W b fb) (hm : behindInMarks .In b = false := by rfl) : DT X W (.Compare a [.In] [b] pos) (t2 (gIn false) fa fb) := dt_cmp (op_in_sign.or op_in_seq) (OpG.or (fun _ y => isS y) opg_inS opg_inL) ha hb hm
theorem dt_nin (ha : DE X W a fa) (hb : DE X W b fb) (hm : behindInMarks .NotIn b = false := by rfl) : DT X W (.Compare a [.NotIn] [b] pos) (t2 (gIn true) fa fb) := dt_cmp (op_notIn_sign.or op_notIn_seq) (OpG.or (fun _ y => isS y) opg_ninS opg_inL) ha hb hm
end

/-! ### the first place of a sign -/
/-- counted from i on -/
def fndL (c : Nat) : Nat → List Nat → Option Nat
  | _, [] => none
  | i, d :: r => if d = c then some i else fndL c (i + 1) r
theorem fndL_none {c : Nat} : ∀ {l : List Nat} {i : Nat}, c ∉ l → fndL c i l = none
  | [], _, _ => rfl
  | d :: r, i, h => by
    unfold fndL
    rw [if_neg fun e => h (by rw [e]; exact List.mem_cons_self)]
    exact fndL_none fun m => h (List.mem_cons_of_mem _ m)
theorem fndL_app {c : Nat} {r : List Nat} : ∀ {l : List Nat} {i : Nat}, c ∉ l → fndL c i (l ++ c :: r) = some (i + l.length)
  | [], i, _ => by
    show (if c = c then some i else _) = _
    rw [if_pos rfl]; rfl
  | d :: l, i, h => by
    show (if d = c then some i else fndL c (i + 1) (l ++ c :: r)) = _
    rw [if_neg fun e => h (by rw [e]; exact List.mem_cons_self), fndL_app fun m => h (List.mem_cons_of_mem _ m), List.length_cons]
    congr 1
    omega
theorem split_mem {c : Nat} : ∀ {l : List Nat}, c ∈ l → ∃ a b, l = a ++ c :: b ∧ c ∉ a
  | d :: r, h => by
    by_cases e : d = c
    · exact ⟨[], r, by rw [e]; rfl, List.not_mem_nil⟩
    · obtain ⟨a, b, e1, e2⟩ := split_mem ((List.mem_cons.mp h).resolve_left (Ne.symm e))
      exact ⟨d :: a, b, by rw [e1]; rfl, fun m => (List.mem_cons.mp m).elim (fun z => e z.symm) e2⟩
def fnd (c : Nat) (z : List Nat) (i : Nat) : Int := match fndL c i (z.drop i) with
  | some k => (k : Int)
  | none => -1
theorem getD_S (z : List Nat) (v : Nat) (h : v < z.length) : (S z).cps.getD v 0 = z[v] := by
  simp [S, Array.getD, h]
theorem find_S (c : Nat) (z : List Nat) (i : Nat) (hi : i ≤ z.length) : Txt.find3 (S z) (S [c]) (i : Int) = fnd c z i := by
  have hf : PySem.fromIndex (S z).length (i : Int) = i := by
    unfold PySem.fromIndex
    rw [if_neg (by omega)]
    rw [Int.max_eq_right (by omega)]
    rfl
  have hl := S_len z
  rcases StrLaws.find3_spec (S z) c (i : Int) with ⟨h, hn⟩ | ⟨k, h, h1, h2, h3, h4⟩
  · rw [← S1, h]
    unfold fnd
    rw [fndL_none fun m => ?_]
    obtain ⟨j, hj, e⟩ := List.mem_iff_getElem.mp m
    rw [List.length_drop] at hj
    rw [List.getElem_drop] at e
    exact hn (i + j) (by rw [hf]; omega) (by omega) (by rw [getD_S z _ (by omega)]; exact e)
  · rw [← S1, h]
    rw [hf] at h1 h4
    have hk : k < z.length := by omega
    have e : z.drop i = (z.drop i).take (k - i) ++ c :: z.drop (k + 1) := by
      have q := List.drop_eq_getElem_cons hk
      have hc : z[k] = c := by rw [← getD_S z k hk]; exact h3
      rw [hc] at q
      have e0 := (List.take_append_drop (k - i) (z.drop i)).symm
      rw [List.drop_drop, show i + (k - i) = k by omega, q] at e0
      exact e0
    unfold fnd
    rw [e, fndL_app (fun m => ?_), List.length_take, List.length_drop]
    · show (k : Int) = ((i + min (k - i) (z.length - i) : Nat) : Int)
      omega
    · obtain ⟨j, hj, e⟩ := List.mem_iff_getElem.mp m
      rw [List.length_take, List.length_drop] at hj
      rw [List.getElem_take, List.getElem_drop] at e
      exact h4 (i + j) (by omega) (by omega) (by rw [getD_S z _ (by omega)]; exact e)
/-- text.find(sign, place) -/
def gFind : D → D → D → R Ev
  | .str z, .str [c], .int i => if 0 ≤ i ∧ i ≤ z.length then .ok (.cl, .int (fnd c z i.toNat)) else .bad
  | _, _, _ => .bad
def eFind (fa fb fc : EF) : EF := fun ρ => (fa ρ).bind fun x => if isS x.2 = true then (fb ρ).bind fun y => (fc ρ).bind fun z => gFind x.2 y.2 z.2 else .bad
section
variable {X : Cx} {W : WX} {o e f : Expr} {fa fb fc : EF} {apos pos : Pos}
theorem de_find (ho : DE X W o fa) (he : DE X W e fb) (hf : DE X W f fc) (hs : starEach [e, f] X.env = (false, eval e X.env) :: starEach [f] X.env := by rfl) (hs2 : starEach [f] X.env = (false, eval f X.env) :: starEach [] X.env := by rfl)
    (hbase : attributeBase o "find" X.env (eval o X.env) = eval o X.env := by rfl)
    (hfew : ((backTo pos (starEach [e, f] X.env)).all (fun x => !x.1) && (backToKw pos (keywordEach [] X.env)).all (fun x => x.1.isSome)
      && decide (([e, f] : List Expr).length + ([] : List Keyword).length + (if ([] : List Keyword).isEmpty then 0 else 1) < 30)) = true := by rfl)
    (hline : (apos.endLine == pos.line) = true := by rfl) (hplain : (backTo pos (starEach [f] X.env)).any (·.1) = false := by rfl) :
    DE X W (.Call (.Attribute o "find" apos) [e, f] [] pos) (eFind fa fb fc) := by
  refine imp_pe (pe_bm PySem.F.plainAttrs_str PySem.F.slot_str_find PySem.F.type_str_find mt_find3 ho (pa_cons he (pa_cons hf pa_nil hs2) hs) hbase hfew hline hs hplain) fun σ H Q ⟨hid, own, ρ, hS, h⟩ => ⟨hid, own, ρ, hS, Post.part h fun x H1 v s1 r1 h1 => ?_⟩
  by_cases c : isS x.2 = true
  · rw [if_pos c] at h1
    obtain ⟨a, ea⟩ := isS_of c
    have rt := r1.rt
    rw [ea] at rt h1
    cases (show v = _ from rt)
    refine ⟨rfl, hid, own, ρ, hS.mono s1, Post.part h1 fun y H2 u s2 r2 h2 => ⟨hid, own, ρ, (hS.mono s1).mono s2, Post.part h2 fun z H3 t s3 r3 h3 => ?_⟩⟩
    obtain ⟨k2, d2⟩ := y
    obtain ⟨k3, d3⟩ := z
    unfold gFind at h3
    split at h3
    · rename_i z' c' i' e1 e2 e3
      split at h3
      · rename_i hi
        cases e1
        cases (show d2 = _ from e2)
        cases (show d3 = _ from e3)
        refine ⟨S a, S [c'], i', rfl, by rw [show u = _ from r2.rt, show t = _ from r3.rt], ?_⟩
        have : i' = ((i'.toNat : Nat) : Int) := (Int.toNat_of_nonneg hi.1).symm
        rw [this, find_S c' a i'.toNat (by omega)]
        exact h3.now rfl
      · exact h3.elim
    · exact h3.elim
  · rw [if_neg c] at h1; exact h1.elim
/-- text.index(sign), where it stands -/
def gIdx : D → D → R Ev
  | .str z, .str [c] => match fndL c 0 z with
    | some k => .ok (.cl, .int (k : Nat))
    | none => .bad
  | _, _ => .bad
theorem index_S {c k : Nat} {z : List Nat} (h : fndL c 0 z = some k) : ∃ rest, Builtin.Str.occurrences (S z) (S [c]) 0 (S z).length 1 = k :: rest := by
  have pre1' : ∀ (d : Nat) (r : List Nat), TL.pre [c] (d :: r) = (d == c) := fun d r => by
    show ([d] == [c]) = (d == c)
    rw [Bool.eq_iff_iff, beq_iff_eq, beq_iff_eq]
    exact ⟨fun h => (List.cons.inj h).1, fun h => by rw [h]⟩
  have at_c : ∀ i, StrLaws.At (S z) (S [c]) (S z).length i ↔ z[i]? = some c := fun i => by
    rw [TL.at_iff (by rw [show TL.tl (S [c]) = [c] from S_cps _]; exact List.cons_ne_nil _ _), show TL.tl (S [c]) = [c] from S_cps _, show TL.tl (S z) = z from S_cps _]
    by_cases hi : i < z.length
    · rw [List.drop_eq_getElem_cons hi, pre1', List.getElem?_eq_getElem hi, beq_iff_eq]
      exact ⟨fun e => by rw [e], fun e => Option.some.inj e⟩
    · rw [List.drop_eq_nil_of_le (by omega), List.getElem?_eq_none (by omega)]
      exact ⟨fun e => (nomatch e), fun e => (nomatch e)⟩
  have hm : c ∈ z := by
    by_cases m : c ∈ z
    · exact m
    · rw [fndL_none m] at h; cases h
  obtain ⟨a, b, e, n⟩ := split_mem hm
  subst e
  rw [fndL_app n] at h
  have hk : k = a.length := by have := Option.some.inj h; omega
  subst hk
  rcases StrLaws.occ_head (S (a ++ c :: b)) (S [c]) 1 (Nat.le_refl 1) with ⟨_, hn⟩ | ⟨i, r, h1, h2, h3⟩
  · exact absurd ((at_c a.length).mpr (by simp)) (hn _)
  · have e1 : i = a.length := by
      have q := (at_c i).mp h2
      rcases Nat.lt_trichotomy i a.length with w | w | w
      · rw [List.getElem?_append_left w] at q
        exact absurd (List.mem_of_getElem? q) n
      · exact w
      · exact absurd ((at_c a.length).mpr (by simp)) (h3 _ w)
    rw [e1] at h1
    exact ⟨r, h1⟩
theorem mg_idx {K : PySem.W.Frag} : MthG K (fun x xs H Q => ∃ a b i rest, x = .str a ∧ xs = [.str b] ∧ Builtin.Str.occurrences a b 0 a.length 1 = i :: rest ∧ Q (.int (i : Nat)) H) gIdx := by
  intro hid own H Wx a y dy Q hb ry q
  unfold gIdx at q
  split at q
  · rename_i z c e1
    cases e1
    split at q
    · rename_i k hk
      obtain ⟨rest, hr⟩ := index_S hk
      exact ⟨S a, S [c], k, rest, rfl, by rw [show y = _ from ry], hr, q.now rfl⟩
    · exact q.elim
  · exact q.elim
theorem de_index (ho : DE X W o fa) (he : DE X W e fb) (hs : starEach [e] X.env = [(false, eval e X.env)] := by rfl) (hbase : attributeBase o "index" X.env (eval o X.env) = eval o X.env := by rfl) (hline : (apos.endLine == pos.line) = true := by rfl) :
    DE X W (.Call (.Attribute o "index" apos) [e] [] pos) (mth1 gIdx fa fb) := de_m1 PySem.F.slot_str_index PySem.F.type_str_index mt_sindex mg_idx ho he hs hbase hline
end

/-! ### a dict that the top has written, texts by texts -/
def keyS (e : DictEntry) : Option Str := match e.key with
  | .str x _ => some x
  | _ => none
structure KT (K : PySem.W.Frag) (w : World) (d : Addr) (m : List (List Nat × List Nat)) : Prop where
  dic : ∃ es n, KDict K w d es n ∧ es.toList.map keyS = m.map fun p => some (S p.1)
  val : ∀ p ∈ m, ∃ t, PySem.W.nsIn K d (S p.1) = some (some (.str (S p.2) t))
theorem no_key {z : Str} : ∀ {l : List DictEntry} {ks : List Str}, l.map keyS = ks.map some → z ∉ ks → l.find? (·.key.isStr z) = none ∧ l.any (·.refKey) = false
  | [], _, _, _ => ⟨rfl, rfl⟩
  | e :: r, [], h, _ => by cases h
  | e :: r, k :: ks, h, n => by
    have h1 : keyS e :: r.map keyS = some k :: ks.map some := h
    injection h1 with h2 h3
    obtain ⟨q1, q2⟩ := no_key h3 fun m => n (List.mem_cons_of_mem _ m)
    unfold keyS at h2
    split at h2
    · rename_i x t q
      have h4 := Option.some.inj h2
      subst h4
      have e1 : e.key.isStr z = false := by
        rw [q]
        exact beq_false_of_ne fun y => n (by rw [← y]; exact List.mem_cons_self)
      have e2 : e.refKey = false := by
        unfold DictEntry.refKey
        rw [q]
      exact ⟨by rw [List.find?_cons_of_neg (by rw [e1]; exact Bool.false_ne_true)]; exact q1, by rw [List.any_cons, e2, q2]; rfl⟩
    · cases h2
theorem mem_lookup {z : List Nat} : ∀ (m : List (List Nat × List Nat)) (p : List Nat × List Nat), p ∈ m → p.1 = z → ∃ v, m.lookup z = some v
  | q :: r, p, hp, e => by
    by_cases c : z = q.1
    · have : (z == q.1) = true := by rw [c]; exact beq_self_eq_true _
      exact ⟨q.2, by rw [List.lookup_cons, this]⟩
    · have c' : (z == q.1) = false := beq_false_of_ne c
      obtain ⟨v, hv⟩ := mem_lookup r p ((List.mem_cons.mp hp).resolve_left fun w => c (by rw [← e, w])) e
      exact ⟨v, by rw [List.lookup_cons, c']; exact hv⟩
theorem KT.none {K : PySem.W.Frag} {w : World} {d : Addr} {m : List (List Nat × List Nat)} (h : KT K w d m) {z : List Nat} (n : m.lookup z = none) : PySem.W.nsIn K d (S z) = some none := by
  have hz : S z ∉ m.map fun p => S p.1 := fun y => by
    obtain ⟨p, hp, e⟩ := List.mem_map.mp y
    have e := S_inj e
    obtain ⟨v, hv⟩ := mem_lookup m p hp e
    rw [n] at hv; cases hv
  obtain ⟨es, k, D, key⟩ := h.dic
  have key : es.toList.map keyS = (m.map fun p => S p.1).map some := by
    rw [key, List.map_map]
    rfl
  obtain ⟨f1, f2⟩ := no_key key hz
  unfold PySem.W.nsIn
  rw [D.at_]
  show (match es.toList.find? (·.key.isStr (S z)) with | some e => some (some e.val) | Option.none => if es.toList.any (·.refKey) then Option.none else some Option.none) = _
  rw [f1, f2]
  rfl
theorem lookup_mem {m : List (List Nat × List Nat)} {z y : List Nat} (h : m.lookup z = some y) : (z, y) ∈ m := by
  induction m with
  | nil => cases h
  | cons q r ih =>
    by_cases c : z = q.1
    · rw [List.lookup_cons] at h
      have : (z == q.1) = true := by rw [c]; exact beq_self_eq_true _
      rw [this] at h
      have := Option.some.inj h
      rw [c, ← this]; exact List.mem_cons_self
    · have c' : (z == q.1) = false := beq_false_of_ne c
      rw [List.lookup_cons, c'] at h
      exact List.mem_cons_of_mem _ (ih h)
def gKin (m : List (List Nat × List Nat)) : D → R Ev
  | .str z => .ok (.cl, .bl (m.lookup z).isSome)
  | _ => .bad
def gKix (m : List (List Nat × List Nat)) : D → R Ev
  | .str z => match m.lookup z with
    | some y => .ok (.cl, .str y)
    | none => .bad
  | _ => .bad
section
variable {X : Cx} {W : WX} {a : Expr} {fa : EF} {x : Str} {d : Addr} {m : List (List Nat × List Nat)} {p pos : Pos}
theorem de_kin (h : KT X.K X.w d m) (hg : Gl X x) (hm : X.mg x = some (.ref d)) (ha : DE X W a fa) (hd : (x == ("__debug__" : Str)) = false := by decide) : DE X W (.Compare a [.In] [.Name x p] pos) (op1 (gKin m) fa) := by
  obtain ⟨es, k, D, _⟩ := h.dic
  refine imp_pe (pe_cmpR (op_in_kd D) ha (pe_glob (v := .ref d) hg hm rfl hd) (by rfl)) fun σ H Q ⟨hid, own, ρ, hS, q⟩ => ⟨hid, own, ρ, hS, Post.part q fun e H1 v s1 r1 h1 => ?_⟩
  obtain ⟨k1, d1⟩ := e
  cases d1 with
  | str z =>
    have h1 : Post X.K hid own H1 (Wc X.mg W σ) (.ok (.cl, .bl (m.lookup z).isSome)) Q := h1
    cases e : m.lookup z with
    | none =>
      rw [e] at h1
      exact ⟨S z, none, r1.rt, rfl, h.none e, h1.now rfl⟩
    | some y =>
      rw [e] at h1
      obtain ⟨t, ht⟩ := h.val _ (lookup_mem e)
      exact ⟨S z, some _, r1.rt, rfl, ht, h1.now rfl⟩
  | _ => exact h1.elim
theorem de_kix (h : KT X.K X.w d m) (hg : Gl X x) (hm : X.mg x = some (.ref d)) (ha : DE X W a fa) (hs : PlainIx a := by intro _ _; rfl) (hd : (x == ("__debug__" : Str)) = false := by decide) : DE X W (.Subscript (.Name x p) a pos) (op1 (gKix m) fa) := by
  obtain ⟨es, k, D, _⟩ := h.dic
  refine imp_pe (pe_ix ix_kdict (pe_glob (v := .ref d) hg hm rfl hd) ha hs) fun σ H Q ⟨hid, own, ρ, hS, q⟩ => ⟨hid, own, ρ, hS, Post.part q fun e H1 v s1 r1 h1 => ?_⟩
  obtain ⟨k1, d1⟩ := e
  cases d1 with
  | str z =>
    have h1 : Post X.K hid own H1 (Wc X.mg W σ) (match m.lookup z with | some y => .ok (.cl, .str y) | none => .bad) Q := h1
    cases e : m.lookup z with
    | none => rw [e] at h1; exact h1.elim
    | some y =>
      rw [e] at h1
      obtain ⟨t, ht⟩ := h.val _ (lookup_mem e)
      exact ⟨d, S z, .str (S y), rfl, r1.rt, ⟨es, k, _, D.at_, D.lit, ht, ⟨t, rfl⟩⟩, h1.now rfl⟩
  | _ => exact h1.elim

/-! ### raise of a class of the program -/
/-- a class that may be raised by name -/
structure Cl (K : PySem.W.Frag) (mg : Str → Option Value) (x : Str) where
  C : Addr
  g : mg x = some (.ref C)
  k : PySem.W.keepIn K (.ref C) = true
  s : PySem.W.subIn K (.ref C) (.type "BaseException") = some true
  t : PySem.W.typeIn K (.ref C) = some (.type "type")
def sRaise (c : Str) : SF := fun ρ => .exc c ρ
theorem ds_raise {msg : Str} {B newId initId : String} {bmB : List Value} {j : Nat} {p2 pos' : Pos} (hc : X.calm = true) (tk : Takes X W) (F : ExcBaseFacts B newId initId bmB) (c : Cl X.K X.mg x) (q : PySem.W.excIn X.K c.C bmB newId = true) (hg : Gl X x) (hdb : (x == ("__debug__" : Str)) = false := by decide) :
    DS X W (.Raise (some (.Call (.Name x p) [.Constant (.str msg) j p2] [] pos)) none pos') (sRaise x) :=
  imp_ps (ps_raise hc tk (pmk_own F q c.g c.k (raises_own c.s c.t) hg hdb)) fun D σ H ⟨hid, own, ρ, hS, h⟩ => h own σ H Ext.refl hS c.C c.g
end
end PL
set_option Elab.async false
set_option linter.all false
set_option maxRecDepth 100000
set_option maxHeartbeats 4000000
/-! PL11: a written dict at once indexed, try with one own class. -/
namespace PL
open PySem PySem.Spec L2

/-! ### {..}[e] -/
theorem tPairs_c {σ : L2.St} {H : Hp} : ∀ (m : List (List Nat × List Nat)) (Q : List (V × V) → Hp → Prop), Q (m.map fun p => (V.str (S p.1), V.str (S p.2))) H → tPairs (m.map fun p => (tC (.str (S p.1)), tC (.str (S p.2)))) σ H Q
  | [], Q, h => h
  | p :: r, Q, h => tPairs_c r (fun ps H3 => Q ((V.str (S p.1), V.str (S p.2)) :: ps) H3) h
def kvsOf (m : List (List Nat × List Nat)) : List (Key × V) := m.map fun p => (.inr (S p.1), .str (S p.2))
theorem merge_new : ∀ (m : List (List Nat × List Nat)) (kvs : List (Key × V)), (m.map (·.1)).Nodup → (∀ p ∈ m, ∀ kv ∈ kvs, kv.1 ≠ .inr (S p.1)) → mergeK kvs (kvsOf m) = kvs ++ kvsOf m
  | [], kvs, _, _ => (List.append_nil kvs).symm
  | p :: r, kvs, hn, h => by
    have hn' := List.nodup_cons.mp hn
    have e : putK kvs (.inr (S p.1)) (.str (S p.2)) = kvs ++ [(.inr (S p.1), .str (S p.2))] := by
      unfold putK
      rw [if_neg]
      rw [Bool.not_eq_true, List.any_eq_false]
      intro kv hkv
      have := h p List.mem_cons_self kv hkv
      simpa using this
    show mergeK (putK kvs (.inr (S p.1)) (.str (S p.2))) (kvsOf r) = kvs ++ ((.inr (S p.1), .str (S p.2)) :: kvsOf r)
    rw [e, merge_new r _ hn'.2 fun q hq kv hkv => ?_, List.append_assoc]
    · rfl
    · rcases List.mem_append.mp hkv with z | z
      · exact h q (List.mem_cons_of_mem _ hq) kv z
      · rw [List.mem_singleton.mp z]
        intro w
        have w : S p.1 = S q.1 := Sum.inr.inj w
        exact hn'.1 (List.mem_map.mpr ⟨q, hq, (S_inj w).symm⟩)
theorem val_look (z : List Nat) : ∀ (m : List (List Nat × List Nat)), valV (kvsOf m) (.inr (S z)) = (m.lookup z).map fun y => V.str (S y)
  | [] => rfl
  | p :: r => by
    by_cases c : z = p.1
    · have e : (z == p.1) = true := by rw [c]; exact beq_self_eq_true _
      rw [List.lookup_cons, e]
      exact valV_pos (p := (Sum.inr (S p.1), V.str (S p.2))) (by rw [c])
    · have e : (z == p.1) = false := beq_false_of_ne c
      rw [List.lookup_cons, e]
      refine (valV_neg (p := (Sum.inr (S p.1), V.str (S p.2))) fun w => c (S_inj (Sum.inr.inj w)).symm).trans ?_
      exact val_look z r
section
variable {X : Cx} {W : WX} {a : Expr} {fa : EF} {x : Str} {pos p2 : Pos} {keys : List (Option Expr)} {values : List Expr}
theorem de_dix (m : List (List Nat × List Nat)) (hu : X.A.units + 1 < cLine) (hp : PPs X p2 keys values (m.map fun p => (tC (.str (S p.1)), tC (.str (S p.2))))) (hall : keys.all (·.isSome) = true) (hl : keys.length = values.length) (h0 : keys ≠ []) (h15 : keys.length ≤ 15)
    (hn : (m.map (·.1)).Nodup) (hm15 : m.length ≤ 15) (ha : DE X W a fa) (hs : NoSl a := by intro _ _; rfl) : DE X W (.Subscript (.Dict keys values p2) a pos) (op1 (gKix m) fa) := by
  refine imp_pe (pe_dget hu (pe_disp hp hall hl h0 h15) ha hs) fun σ H Q ⟨hid, own, ρ, hS, q⟩ => ?_
  intro p np
  refine tPairs_c m _ ⟨upd_same, kvsOf m, ?_, ?_, ?_⟩
  · unfold kvsOf
    rw [List.map_map]
    rfl
  · unfold kvsOf
    rw [List.length_map]; exact hm15
  · have mg : mergeK [] (kvsOf m) = kvsOf m := merge_new m [] hn fun _ _ _ h => absurd h List.not_mem_nil
    rw [mg]
    have sm : Same H (upd (upd H p (.dK [])) p (.dK (kvsOf m))) := fun b o e => by
      have hb : b ≠ p := ne_of_none e np
      rw [upd_ne hb, upd_ne hb]; exact e
    refine ⟨hid, own, ρ, hS.mono sm, Post.part (Post.mono sm q) fun e H1 v s1 r1 h1 => ?_⟩
    obtain ⟨k1, d1⟩ := e
    cases d1 with
    | str z =>
      have h1 : Post X.K hid own H1 (Wc X.mg W σ) (match m.lookup z with | some y => .ok (.cl, .str y) | none => .bad) Q := h1
      cases e : m.lookup z with
      | none => rw [e] at h1; exact h1.elim
      | some y =>
        rw [e] at h1
        refine ⟨p, .str (S y), rfl, .inl ⟨kvsOf m, .inr (S z), .inl (s1 _ _ upd_same), r1.rt, ?_⟩, h1.now rfl⟩
        rw [val_look, e]
        rfl
    | _ => exact h1.elim
end

/-! ### isinstance of a caught exception -/
/-- what must be seen of a class C for an instance of it to be asked by isinstance -/
structure ExcI (K : PySem.W.Frag) (C : Addr) : Prop where
  cl : (PySem.W.clsIn K C).isSome = true
  ga : PySem.W.findIn K (.ref C) "__getattribute__" = some (some (.builtin "BaseException.__getattribute__"))
  gt : ∃ gt, PySem.W.findIn K (.ref C) "__getattr__" = some gt
  sub : PySem.W.subIn K (.ref C) (.type "BaseException") = some true
  ca : PySem.W.findIn K (.ref C) "__class__" = some (some (.builtin "object.__class__"))
  sp : PySem.W.specialIn K (.builtin "object.__class__") "__get__" = some (some (.builtin "getset_descriptor.__get__"))
  tk : PySem.W.takesIn K (.builtin "object.__class__") = some true
  mr : PySem.W.mroIn K C (.type "object") = some true
section
variable {X : Cx} {a : Addr} {oe : Obj} {pn : List (Addr × Obj)} {C CB : Addr} {b : Bool}
theorem cr_isiE (T : ExcI X.K C) (hp : (a, oe) ∈ X.pn) (hc : oe.cls = .ref C) (hod : oe.dict = none) (hdt : ∃ vs, oe.data = .fields vs) (hk : PySem.W.kitOne X.K (.ref C) (.ref CB) = some b) :
    CallR X (.builtin "isinstance") (fun xs H Q => xs = [.ref a, .ref CB] ∧ Q (.bl b) H) := by
  intro pins s σ H xs us Q I r ⟨e, q⟩
  subst e
  obtain ⟨u1, u2, rfl, r1, r2⟩ := vals2 r
  cases r1
  cases r2
  obtain ⟨gt, hgt⟩ := T.gt
  have pin := (I.pin _ (List.mem_append_left _ hp)).1
  obtain ⟨vs, hv⟩ := hdt
  have inst : PySem.W.InstAt s.heap a oe C none := by
    refine ⟨pin, hc, ?_, ?_⟩
    · unfold PySem.W.notCls
      rw [hv]
    · rw [hod]
      trivial
  exact PySem.W.kia_one (PySem.W.kitx_exc T.cl T.ga hgt T.sub T.ca T.sp T.tk T.mr) I.kIn inst hk (fun z => nomatch z) fun tk => ⟨.bl b, H, I.tok tk, rfl, q⟩
end

/-! ### try: .. except C as n: (a suite that hands out a text) -/
def sTryC (i : Nat) (x : Str) (fb : SF) (z : List Nat) : SF := fun ρ => match fb ρ with
  | .exc c ρ' => if c = x ∧ i < ρ'.length then .rt (.cl, .str z) else .bad
  | r => r
section
variable {X : Cx} {W : WX} {x n : Str} {body suite : List Stmt} {b₀ : Stmt} {np pos pos' : Pos} {fb : SF} {z : List Nat}
theorem ds_tryC (i : Nat) (hs : X.stack = X.env :: X.outer) (hf : X.env.frame = some X.env.locals) (hN : X.N.Nodup) (hi : X.N[i]? = some n) (hln : X.env.kindOf n = some .local) (c : Cl X.K X.mg x) (hg : Gl X x) (hdb : (x == ("__debug__" : Str)) = false)
    (hex : PySem.W.exmOne X.K (.ref c.C) (.ref c.C) = some true) (tk : Takes X W)
    (hb : ∀ (W' : WX) (pn : List (Addr × Obj)) (xe : Value → Shared → Prop), Takes (X.tr pn xe) W' → PassesOwn (model X.prog X.w) X.A X.env xe → DSs (X.tr pn xe) W' body fb)
    (hsu : ∀ (a : Addr) (oe : Obj) (pn : List (Addr × Obj)), oe.cls = .ref c.C → oe.dict = none → (∃ vs, oe.data = .fields vs) → PSs (X.suite a ((a, oe) :: pn)) (b₀ :: suite) (fun D σ H => σ[i]? = some (some (.ref a)) ∧ ∀ H', Same H H' → D.rt (.str (S z)) H')) :
    DS X W (.Try body [.ExceptHandler (some (.Name x np)) (some n) (b₀ :: suite) pos'] [] [] pos) (sTryC i x fb z) := by
  refine imp_ps (ps_try_as (tb := fun W' => tS X.K X.mg W' fb) (ts := fun a cls d D σ H => cls = .ref c.C ∧ d = none ∧ σ[i]? = some (some (.ref a)) ∧ ∀ H', Same H H' → D.rt (.str (S z)) H') hs hf hN hi hln ⟨hg, hdb, .inl c.g⟩ tk hb
    (fun a oe cls d pn hz hd => ⟨fun pins s σ H D I ⟨e1, e2, q⟩ => by
      subst e1 e2
      exact (hsu a oe pn hz.1 hz.2 hd).run pins s σ H D I q⟩)) fun D σ H ⟨hid, own, ρ, hS, h⟩ => ⟨hid, own, ρ, hS, ?_⟩
  unfold sTryC at h
  cases e : fb ρ with
  | nx ρ' => rw [e] at h; exact h
  | bk ρ' => rw [e] at h; exact h
  | ct ρ' => rw [e] at h; exact h
  | rt e' => rw [e] at h; exact h
  | bad => rw [e] at h; exact h.elim
  | exc c' ρ' =>
    rw [e] at h
    have h : PostS X.K X.mg W hid own H D (if c' = x ∧ i < ρ'.length then .rt (.cl, .str z) else .bad) := h
    split at h
    · rename_i hc
      intro own' σ' H' x' S' C hC
      rw [hc.1, c.g] at hC
      have eC : c.C = C := Value.ref.inj (Option.some.inj hC)
      subst eC
      refine ⟨true, hex, fun _ a na => ⟨rfl, rfl, ?_, fun H2 s2 => ?_⟩, fun z => nomatch z⟩
      · rw [List.getElem?_set_self (by rw [← S'.len]; exact hc.2)]
      · exact h own' H2 (.str (S z)) (x'.trans (Ext.same s2)) rfl
    · exact h.elim
end

/-! ### a list display whose later items want a token -/
theorem pa_consC {X : Cx} {a : Expr} {op : Operator} {r : R2} {ta : TE} {tr : TA} {m : Str} {j : Nat} {c0 pos : Pos} {es : List Expr} (ho : OpR X (binaryOp op) r) (ha : PE X a ta) (hr : PAT X es tr)
    (hs : starEach (.BinOp a op (.Constant (.str m) j c0) pos :: es) X.env = (false, eval (.BinOp a op (.Constant (.str m) j c0) pos) X.env) :: starEach es X.env) : PA X (.BinOp a op (.Constant (.str m) j c0) pos :: es) (tCons (tOp r ta (tC (.str m))) tr) := by
  refine ⟨fun ps pins s σ H Q I h => ?_⟩
  rw [hs]
  show wpAny _ _ (spliced ((false, eval (.BinOp a op (.Constant (.str m) j c0) pos) X.env) :: backTo ps (starEach es X.env))) _ _ s
  refine Calls.spliced_cons (PySem.wpAny_BinOp (thn (ha.run pins s σ H _ I h) fun v s1 ⟨x, H1, I1, r1, q1⟩ => Calls.Constant_str ?_))
  have h1 : 1 ≤ ({ s1 with toks := s1.toks + 1 } : Shared).toks := by show 1 ≤ s1.toks + 1; omega
  refine wpAny_mono (PySem.wpAny_toks_of h1 (ho pins _ σ H1 x (.str m) v (.str m s1.toks) _ (I1.tok _) r1 ⟨_, rfl⟩ q1)) (fun w s2 z => ?_) fun _ _ z => z.2
  obtain ⟨hk, y, H2, I2, r2, q2⟩ := z
  exact thn (hr ps pins s2 σ H2 _ hk I2 q2) fun us s3 ⟨xs, H3, I3, r3, q3⟩ => ⟨y :: xs, H3, I3, .cons r2 r3, q3⟩
theorem cons_den {X : Cx} {W : WX} {fb : EF} {fs : AF} {te : TE} (hb : ∀ σ H Q, tE X.K X.mg W fb σ H Q → te σ H Q) : ∀ σ H Q, tA X.K X.mg W (aCons fb fs) σ H Q → tCons te (tA X.K X.mg W fs) σ H Q := fun σ H Q ⟨hid, own, ρ, hS, h⟩ => by
  refine hb σ H _ ⟨hid, own, ρ, hS, ?_⟩
  unfold aCons at h
  cases e1 : fb ρ with
  | exc c => rw [e1] at h; exact h
  | bad => rw [e1] at h; exact h
  | ok x =>
    rw [e1] at h
    intro H1 v s1 r1
    refine ⟨hid, own, ρ, hS.mono s1, ?_⟩
    have h : PostA X.K hid own H (Wc X.mg W σ) ((fs ρ).bind fun es => .ok (x :: es)) Q := h
    cases e2 : fs ρ with
    | exc c => rw [e2] at h; exact fun H2 s2 => h H2 (s1.trans s2)
    | bad => rw [e2] at h; exact h
    | ok ys =>
      rw [e2] at h
      intro H2 vs s2 d2 r2
      exact h H2 (v :: vs) (s1.trans s2) d2 ⟨v, vs, rfl, r1.fwd s2, r2.base s1⟩
theorem Post.imp {K : PySem.W.Frag} {hid : Addr → Prop} {own : Own} {H : Hp} {Wx : Str → Hp → Prop} {r : R Ev} {Q Q' : VK} (k : ∀ v H', Q v H' → Q' v H') (h : Post K hid own H Wx r Q) : Post K hid own H Wx r Q' := by
  cases r with
  | ok e => exact fun H' v s q => k v H' (h H' v s q)
  | exc c => exact h
  | bad => exact h
theorem da_consC {X : Cx} {W : WX} {a : Expr} {fa : EF} {m : Str} (z : List Nat) {j : Nat} {c0 pos : Pos} {es : List Expr} {fs : AF} (ha : DE X W a fa) (hr : DAT X W es fs) (hm : m = S z := by decide +kernel)
    (hs : starEach (.BinOp a .Add (.Constant (.str m) j c0) pos :: es) X.env = (false, eval (.BinOp a .Add (.Constant (.str m) j c0) pos) X.env) :: starEach es X.env := by rfl) : DA X W (.BinOp a .Add (.Constant (.str m) j c0) pos :: es) (aCons (op2 gAdd fa (eC (.str z))) fs) := by
  subst hm
  refine imp_pa (pa_consC (op_add.or (op_add_str.or op_cat)) ha hr hs) (cons_den fun σ H Q q => ?_)
  obtain ⟨hid, own, ρ, hS, h⟩ := two (W := W) (fb := eC (.str z)) (OpG.or (fun x _ => isI x) opg_I0 (OpG.or (fun x _ => isS x) opg_addS opg_addL)) σ H Q q
  exact ⟨hid, own, ρ, hS, Post.imp (fun v H1 ⟨_, _, _, _, h⟩ => Post.now (K := X.K) h rfl) h⟩
theorem dat_nil {X : Cx} {W : WX} : DAT X W [] aNil := imp_pat pat_nil fun σ H Q ⟨hid, own, ρ, hS, h⟩ => h H [] (Same.refl _) hS.dom rfl
theorem dat_cons {X : Cx} {W : WX} {e : Expr} {es : List Expr} {fa : EF} {fs : AF} (ha : DET X W e fa) (hr : DAT X W es fs) (hs : starEach (e :: es) X.env = (false, eval e X.env) :: starEach es X.env := by rfl) : DAT X W (e :: es) (aCons fa fs) := imp_pat (pat_cons ha hr hs) (cons_den fun _ _ _ q => q)
end PL
namespace PL
open PySem PySem.Spec L2
theorem exm_self {K : PySem.W.Frag} {C : Addr} (h1 : PySem.W.subIn K (.ref C) (.type "BaseException") = some true) (h2 : PySem.W.isClsIn K C = true) (h3 : PySem.W.typeIn K (.ref C) = some (.type "type")) (h4 : PySem.W.subIn K (.ref C) (.ref C) = some true) :
    PySem.W.exmOne K (.ref C) (.ref C) = some true := by
  have c1 : (PySem.W.clsIn K C).isSome = true := h2
  unfold PySem.W.exmOne PySem.W.kitCls
  simp [h1, h3, h4, c1]
theorem kit_sub {K : PySem.W.Frag} {C C2 : Addr} {b : Bool} (h0 : PySem.W.subIn K (.ref C) (.ref C) = some true) (h1 : PySem.W.subIn K (.ref C) (.ref C2) = some b) (h2 : PySem.W.isClsIn K C2 = true) (h3 : PySem.W.typeIn K (.ref C2) = some (.type "type")) :
    PySem.W.kitOne K (.ref C) (.ref C2) = some b := by
  have c1 : (PySem.W.clsIn K C2).isSome = true := h2
  unfold PySem.W.kitOne PySem.W.kitCls
  by_cases e : C = C2
  · subst e
    rw [h0] at h1
    simp [Option.some.inj h1]
  · have : (Value.ref C == Value.ref C2) = false := beq_false_of_ne fun z => e (Value.ref.inj z)
    rw [this]
    simp [c1, h3, h1]
theorem un1_of {A : Around} {k : Nat} (hr : Room k A) : A.units + 1 < cLine := Nat.lt_of_le_of_lt (by omega) hr.un
theorem pps_consC {X : Cx} {pos c0 c1 : Pos} {j0 j1 : Nat} {x y : Str} {ks : List (Option Expr)} {vs : List Expr} {trs : List (TE × TE)} (k v : List Nat) (hr : PPs X pos ks vs trs) (hk : x = S k := by decide +kernel) (hv : y = S v := by decide +kernel) :
    PPs X pos (some (.Constant (.str x) j0 c0) :: ks) (.Constant (.str y) j1 c1 :: vs) ((tC (.str (S k)), tC (.str (S v))) :: trs) := by
  subst hk hv
  exact pps_cons pe_str pe_str hr
/-- [s0, s1][int(isinstance(e, B1) and not isinstance(e, B2))] of a caught exception e of a class below B1, not below B2 -/
theorem suite_isi {Y : Cx} {n B1 B2 s0 s1 : Str} {i : Nat} {a : Addr} {oe : Obj} {C C1 C2 : Addr} {z : List Nat} {j0 j1 : Nat} {p1 p2 p3 p4 p5 p6 p7 p8 p9 p10 p11 p12 p13 p14 p15 pe1 pe2 : Pos}
    (T : ExcI Y.K C) (hp : (a, oe) ∈ Y.pn) (hc : oe.cls = .ref C) (hod : oe.dict = none) (hdt : ∃ vs, oe.data = .fields vs) (k1 : PySem.W.kitOne Y.K (.ref C) (.ref C1) = some true) (k2 : PySem.W.kitOne Y.K (.ref C) (.ref C2) = some false)
    (hv1 : PE Y (.Name n pe1) (tVar i)) (hv2 : PE Y (.Name n pe2) (tVar i)) (g1 : Gl Y B1) (m1 : Y.mg B1 = some (.ref C1)) (g2 : Gl Y B2) (m2 : Y.mg B2 = some (.ref C2)) (d1 : (B1 == ("__debug__" : Str)) = false) (d2 : (B2 == ("__debug__" : Str)) = false)
    (gi : Gl Y "isinstance") (mi : Y.mg "isinstance" = none) (gn : Gl Y "int") (mn : Y.mg "int" = none) (hz : s1 = S z)
    (q1 : starEach [.Name n pe1, .Name B1 p1] Y.env = (false, eval (.Name n pe1) Y.env) :: starEach [.Name B1 p1] Y.env)
    (q2 : starEach [.Name n pe2, .Name B2 p2] Y.env = (false, eval (.Name n pe2) Y.env) :: starEach [.Name B2 p2] Y.env)
    (q5 : starEach [.Constant (.str s0) j0 p3, .Constant (.str s1) j1 p4] Y.env = (false, eval (.Constant (.str s0) j0 p3) Y.env) :: starEach [.Constant (.str s1) j1 p4] Y.env)
    (q3 : starEach [.BoolOp .And [.Call (.Name "isinstance" p5) [.Name n pe1, .Name B1 p1] [] p6, .UnaryOp .Not (.Call (.Name "isinstance" p7) [.Name n pe2, .Name B2 p2] [] p8) p9] p10] Y.env =
      (false, eval (.BoolOp .And [.Call (.Name "isinstance" p5) [.Name n pe1, .Name B1 p1] [] p6, .UnaryOp .Not (.Call (.Name "isinstance" p7) [.Name n pe2, .Name B2 p2] [] p8) p9] p10) Y.env) :: starEach [] Y.env) :
    PSs Y [.Return (some (.Subscript (.List [.Constant (.str s0) j0 p3, .Constant (.str s1) j1 p4] p11) (.Call (.Name "int" p12) [.BoolOp .And [.Call (.Name "isinstance" p5) [.Name n pe1, .Name B1 p1] [] p6, .UnaryOp .Not (.Call (.Name "isinstance" p7) [.Name n pe2, .Name B2 p2] [] p8) p9] p10] [] p13) p14)) p15]
      (fun D σ H => σ[i]? = some (some (.ref a)) ∧ ∀ H', Same H H' → D.rt (.str (S z)) H') := by
  have e1 := pe_callB (cr_isiE (b := true) T hp hc hod hdt k1) gi mi bt_isi (pa_cons hv1 (pa_cons (pe_glob (v := .ref C1) (pos := p1) g1 m1 rfl d1) pa_nil) q1) (by decide) (by decide) q1 rfl (p := p5) (pos := p6)
  have e2 := pe_callB (cr_isiE (b := false) T hp hc hod hdt k2) gi mi bt_isi (pa_cons hv2 (pa_cons (pe_glob (v := .ref C2) (pos := p2) g2 m2 rfl d2) pa_nil) q2) (by decide) (by decide) q2 rfl (p := p7) (pos := p8)
  have e3 := pe_andT (pos := p10) e1 (pe_one (op := .And) (pos := p10) (pe_notT (pos := p9) e2))
  have e4 := pe_callTy call_int1 gn mn bt_int (pa_cons e3 pa_nil q3) (by decide) (by decide) q3 rfl (p := p12) (pos := p13)
  refine imp_pss (pss_one (ps_ret (pe_ix ix_seq (pe_lst (pa_cons pe_str (pa_cons pe_str pa_nil) q5)) e4 (by intro _ _; rfl)))) fun D σ H ⟨hi, h⟩ => ?_
  refine ⟨by show 2 ≤ sizeLine; rw [sizeLine_eq]; decide, fun p np => ?_⟩
  have hL : SqL Y.K (upd H p (.lst [.str s0, .str s1])) p [.str s0, .str s1] := SqL.of upd_same
  have fin : D.rt (.str s1) (upd H p (.lst [.str s0, .str s1])) := by rw [hz]; exact h _ (sameUpd np)
  have e5 : atI [V.str s0, V.str s1] (1 : Int) = some (.str s1) := atI_nat' (i := 1) rfl
  exact ⟨_, hi, rfl, true, rfl, iteT ⟨_, hi, rfl, false, rfl, .inr ⟨true, rfl, .inl ⟨p, _, 1, _, rfl, rfl, hL, e5, fin⟩⟩⟩⟩
end PL
set_option Elab.async false
set_option linter.all false
set_option maxRecDepth 100000
set_option maxHeartbeats 4000000
/-! PE2: more rules with side conditions (the same as in the texts of k62). -/
namespace PL
open PySem PySem.Spec L2
theorem joinL_nil : ∀ xs : List (List Nat), TL.joinL [] xs = xs.flatten
  | [] => rfl
  | [p] => by simp [TL.joinL]
  | p :: q :: r => by
    show p ++ ([] ++ TL.joinL [] (q :: r)) = _
    rw [joinL_nil (q :: r), List.nil_append]
    rfl
theorem num_len {n : Nat} (h : n < 2 ^ 64) : (TL.numL n).length ≤ 20 := TL.numL_len (by decide) (Nat.lt_of_lt_of_le h (by decide))
def prc (c : Nat) : Bool := decide (32 ≤ c) && decide (c ≤ 126)
def prn (x : List Nat) : Bool := x.all prc
theorem lt1 (a b : Nat) : decide ([a] < [b]) = decide (a < b) := by
  rw [decide_eq_decide, List.cons_lt_cons_iff]
  exact ⟨fun h => h.elim (fun z => z) fun z => absurd z.2 (List.lt_irrefl []), .inl⟩
theorem not_dec_lt (a b : Nat) : (!decide (a < b)) = decide (b ≤ a) := by
  rw [← decide_not]
  exact decide_eq_decide.mpr Nat.not_lt
theorem gLe_1 (a b : Nat) : gLe (.str [a]) (.str [b]) = .ok (.cl, .bl (decide (a ≤ b))) := by
  show R.ok (Kd.cl, D.bl (!decide ([b] < [a]))) = _
  rw [lt1, not_dec_lt]
theorem chn_ok {ρ : Ro} {fa fb fc : EF} {g g' : D → D → R Ev} {k1 k2 k3 k4 : Kd} {x y z : D} {a b : Bool} (ha : fa ρ = .ok (k1, x)) (hb : fb ρ = .ok (k2, y)) (hg : g x y = .ok (k3, .bl a)) (hc : fc ρ = .ok (k4, z)) (hg' : g' y z = .ok (.cl, .bl b)) : chn g g' fa fb fc ρ = .ok (.cl, .bl (a && b)) := by
  unfold chn
  simp only [ha, hb, hg, R.bind_ok]
  cases a with
  | true => simp only [hc, R.bind_ok, hg', Bool.true_and]
  | false => rfl
theorem all_id (x : List Nat) (p : Nat → Bool) : (x.map p).all id = x.all p := by
  rw [List.all_map]
  rfl
theorem iRng_ok {ρ : Ro} {fa : EF} {k : Kd} {n : Nat} (ha : fa ρ = .ok (k, .int n)) (h : n < 2 ^ 60) : iRng fa ρ = .ok (false, (List.range' 0 n).map fun k : Nat => D.int k) := by
  unfold iRng
  rw [ha, R.bind_ok]
  have q : -(2 ^ 62) ≤ (n : Int) ∧ (n : Int) < 2 ^ 62 := by omega
  show (if -(2 ^ 62) ≤ (n : Int) ∧ (n : Int) < 2 ^ 62 then _ else _) = _
  rw [if_pos q, Int.toNat_natCast, List.range_eq_range']
  exact congrArg (fun z => R.ok (false, z)) (List.map_congr_left fun k _ => by rw [Int.zero_add])

theorem bad_count (p : List Nat) : decide ((0 : Int) < ((p.filter fun c => !prc c).length : Int)) = !prn p := by
  cases h : prn p with
  | true =>
    have : p.filter (fun c => !prc c) = [] := by
      rw [List.filter_eq_nil_iff]
      intro c hc
      have := List.all_eq_true.mp h c hc
      simp [this]
    rw [this]
    rfl
  | false =>
    have : 0 < (p.filter fun c => !prc c).length := by
      rw [List.length_pos_iff]
      intro z
      rw [List.filter_eq_nil_iff] at z
      have : prn p = true := List.all_eq_true.mpr fun c hc => by
        have := z c hc
        simpa using this
      rw [this] at h
      cases h
    rw [decide_eq_true (by omega)]
    rfl
theorem gLt_1 (a b : Nat) : gLt (.str [a]) (.str [b]) = .ok (.cl, .bl (decide (a < b))) := by
  show R.ok (Kd.cl, D.bl (decide ([a] < [b]))) = _
  rw [lt1]
theorem gGt_1 (a b : Nat) : gGt (.str [a]) (.str [b]) = .ok (.cl, .bl (decide (b < a))) := by
  show R.ok (Kd.cl, D.bl (decide ([b] < [a]))) = _
  rw [lt1]
theorem prc_not (c : Nat) : (decide (c < 32) || decide (126 < c)) = !prc c := by
  unfold prc
  rw [Bool.not_and, ← decide_not, ← decide_not]
  congr 1 <;> exact decide_eq_decide.mpr Nat.not_le.symm
theorem isi_ok {ρ : Ro} {fa : EF} {k : Kd} {d : D} {n : String} {b : Bool} (ha : fa ρ = .ok (k, d)) (h : inst n d = b) : tVal (eIsi n fa) ρ = .ok b := by
  subst h
  exact tVal_b (op1_ok ha rfl)
theorem isiE {ρ : Ro} {fa : EF} {k : Kd} {d : D} {n : String} {b : Bool} (ha : fa ρ = .ok (k, d)) (h : inst n d = b) : eIsi n fa ρ = .ok (.cl, .bl b) := by
  subst h
  exact op1_ok ha rfl
theorem isnT {ρ : Ro} {fa : EF} {k : Kd} {d : D} {b : Bool} (ha : fa ρ = .ok (k, d)) (h : isN d = b) : tE' (eIsN false fa) ρ = .ok b := by
  subst h
  unfold tE'
  rw [show eIsN false fa ρ = .ok (.cl, .bl (isN d)) from op1_ok ha rfl]
  rfl
theorem eAnd_t {ρ : Ro} {fa fb : EF} {k : Kd} {q : R Ev} (ha : fa ρ = .ok (k, .bl true)) (hb : fb ρ = q) : eAnd fa fb ρ = q := by
  unfold eAnd
  rw [ha, R.bind_ok]
  show (if true = true then fb ρ else R.ok (k, D.bl true)) = q
  rw [if_pos rfl, hb]
theorem eNot_b {ρ : Ro} {fa : EF} {k : Kd} {b : Bool} (ha : fa ρ = .ok (k, .bl b)) : eNot fa ρ = .ok (.cl, .bl (!b)) := by
  unfold eNot
  rw [ha, R.bind_ok]
  rfl
def Bel (l : Nat) (ns : List Nat) : Prop := ∀ n ∈ ns, n < l
def known : List Nat := [32, 33, 34, 35, 36, 38, 39, 40, 41, 42, 43, 44, 45, 46, 47, 48, 49, 50, 51, 52, 53, 54, 55, 56, 57, 58, 59, 60, 61, 62, 63, 64, 65, 66, 67, 88, 89, 90, 91, 92, 93, 94, 95, 97, 98, 99, 100, 101, 102, 103, 104, 105, 106, 107, 108, 109, 110, 111, 112, 113, 114, 115, 116, 117, 118, 119, 120, 121, 122, 123, 124, 125, 126, 10]
theorem flat_one (f : Nat → Nat) : ∀ ns : List Nat, (ns.map fun n => [f n]).flatten = ns.map f
  | [] => rfl
  | n :: r => by
    rw [List.map_cons, List.flatten_cons, flat_one f r]
    rfl
theorem one_fit (f : Nat → Nat) (ns : List Nat) : joinSize [] (ns.map fun n => [f n]) = ns.length := by
  unfold joinSize
  rw [List.map_map]
  have : ∀ l : List Nat, (l.map (List.length ∘ fun n => [f n])).sum = l.length := by
    intro l
    induction l with
    | nil => rfl
    | cons a r ih => rw [List.map_cons, List.sum_cons, ih, List.length_cons]; simp only [Function.comp, List.length_cons, List.length_nil]; omega
  rw [this]
  simp
theorem repl1 (a b : Nat) : ∀ x : List Nat, StrLaws.replL [a] [b] x = x.map fun c => if c = a then b else c
  | [] => StrLaws.replL_nil
  | c :: r => by
    by_cases h : c = a
    · subst h
      rw [StrLaws.replL_hit (List.cons_ne_nil _ _) (by rfl), List.map_cons, if_pos rfl]
      show [b] ++ StrLaws.replL [c] [b] r = _
      rw [repl1 c b r]
      rfl
    · rw [StrLaws.replL_miss (y := [a]) (c := c) (r := r) (fun z => h (List.cons.inj (show [c] = [a] from z)).1), List.map_cons, if_neg h, repl1 a b r]
theorem prc_rng {c : Nat} (h : prc c = true) : 32 ≤ c ∧ c ≤ 126 := by
  unfold prc at h
  rw [Bool.and_eq_true, decide_eq_true_eq, decide_eq_true_eq] at h
  exact h
section
variable {ρ : Ro} {fa fl fh : EF} {k k2 k3 : Kd}
theorem slTo {x : List Nat} {n : Nat} (ha : fa ρ = .ok (k, .str x)) (hh : fh ρ = .ok (k2, .int n)) (hz : x.length ≤ 16777216) : eSl fa (oSome (eC (.int 0))) (oSome fh) ρ = .ok (.cl, .str (x.take n)) := by
  unfold eSl
  rw [ha, R.bind_ok]
  show (R.ok (some (0 : Int))).bind _ = _
  rw [R.bind_ok]
  unfold oSome
  rw [hh, R.bind_ok]
  show gSl (.str x) (some 0) (some (n : Int)) = _
  rw [gSl_s hz, cut_to]
theorem slFrom {x : List Nat} {n : Nat} (ha : fa ρ = .ok (k, .str x)) (hl : fl ρ = .ok (k2, .int n)) (hz : x.length ≤ 16777216) : eSl fa (oSome fl) oNo ρ = .ok (.cl, .str (x.drop n)) := by
  unfold eSl
  rw [ha, R.bind_ok]
  unfold oSome
  rw [hl, R.bind_ok]
  show gSl (.str x) (some (n : Int)) none = _
  rw [gSl_s hz, cut_from]
theorem slToL {x : List D} {n : Nat} (ha : fa ρ = .ok (k, .lst x)) (hh : fh ρ = .ok (k2, .int n)) : eSl fa (oSome (eC (.int 0))) (oSome fh) ρ = .ok (.fr, .lst (x.take n)) := by
  unfold eSl
  rw [ha, R.bind_ok]
  show (R.ok (some (0 : Int))).bind _ = _
  rw [R.bind_ok]
  unfold oSome
  rw [hh, R.bind_ok]
  show R.ok (Kd.fr, D.lst (cutL x (some 0) (some (n : Int)))) = _
  rw [cut_to]
theorem slFromL {x : List D} {n : Nat} (ha : fa ρ = .ok (k, .lst x)) (hl : fl ρ = .ok (k2, .int n)) : eSl fa (oSome fl) oNo ρ = .ok (.fr, .lst (x.drop n)) := by
  unfold eSl
  rw [ha, R.bind_ok]
  unfold oSome
  rw [hl, R.bind_ok]
  show R.ok (Kd.fr, D.lst (cutL x (some (n : Int)) none)) = _
  rw [cut_from]
theorem ixS {x : List Nat} {n c : Nat} (ha : fa ρ = .ok (k, .str x)) (hl : fl ρ = .ok (k2, .int n)) (hz : x.length ≤ 16777216) (hc : x[n]? = some c) : op2 gIx fa fl ρ = .ok (.cl, .str [c]) := op2_ok ha hl (gIx_s hz hc)
theorem addS {x y : List Nat} (ha : fa ρ = .ok (k, .str x)) (hl : fl ρ = .ok (k2, .str y)) (hz : x.length + y.length ≤ 16777216) : op2 gAdd fa fl ρ = .ok (.cl, .str (x ++ y)) := op2_ok ha hl (gAdd_s hz)
theorem addN {x y : Nat} (ha : fa ρ = .ok (k, .int x)) (hl : fl ρ = .ok (k2, .int y)) : op2 gAdd fa fl ρ = .ok (.cl, .int ((x + y : Nat) : Int)) := op2_ok ha hl gAdd_i
theorem lenS {x : List Nat} (ha : fa ρ = .ok (k, .str x)) (hz : x.length ≤ 16777216) : op1 gLen fa ρ = .ok (.cl, .int (x.length : Nat)) := op1_ok ha (gLen_s hz)
end
def numD (ds : List Nat) : D := .lst ((ds.map fun n : Nat => (n : Int)).map D.int)
section
variable {ds : List Nat}
theorem numD_get {ds : List Nat} {i : Nat} (h : i < ds.length) : ((ds.map fun n : Nat => (n : Int)).map D.int)[i]? = some (.int (ds[i] : Nat)) := by
  rw [List.getElem?_map, List.getElem?_map, List.getElem?_eq_getElem h]
  rfl
theorem ixN_ok {ρ : Ro} {fa fb : EF} {k k2 : Kd} {i : Nat} (ha : fa ρ = .ok (k, numD ds)) (hb : fb ρ = .ok (k2, .int i)) (h : i < ds.length) : op2 gIx fa fb ρ = .ok (.cl, .int (ds[i] : Nat)) := op2_ok ha hb (gIx_l (numD_get h))
end
def Tx (ρ : Ro) (f : EF) (n : Nat) : Prop := ∃ x : List Nat, f ρ = .ok (.cl, .str x) ∧ x.length ≤ n
def Ls (ρ : Ro) (f : EF) (c n : Nat) : Prop := ∃ k, ∃ xs : List (List Nat), f ρ = .ok (k, .lst (xs.map D.str)) ∧ xs.length ≤ c ∧ ∀ x ∈ xs, x.length ≤ n
def Nm (ρ : Ro) (f : EF) (n : Nat) : Prop := ∃ k, ∃ v : Nat, f ρ = .ok (k, .int v) ∧ v ≤ n
def TxA (ρ : Ro) (fs : AF) (c n : Nat) : Prop := ∃ es : List Ev, ∃ xs : List (List Nat), fs ρ = .ok es ∧ es.map (·.2) = xs.map D.str ∧ es.all okE = true ∧ xs.length = c ∧ ∀ x ∈ xs, x.length ≤ n
section
variable {ρ : Ro} {a b c : EF} {n m c1 c2 : Nat} {fs : AF}
theorem Tx.mono (h : Tx ρ a n) (k : n ≤ m) : Tx ρ a m := let ⟨x, e, l⟩ := h; ⟨x, e, Nat.le_trans l k⟩
theorem Tx.add (h1 : Tx ρ a n) (h2 : Tx ρ b m) (hz : n + m ≤ 16777216) : Tx ρ (op2 gAdd a b) (n + m) := by
  obtain ⟨x, e, l⟩ := h1
  obtain ⟨y, e', l'⟩ := h2
  exact ⟨_, addS e e' (by omega), by rw [List.length_append]; omega⟩
theorem Tx.con (x : List Nat) : Tx ρ (eC (.str x)) x.length := ⟨_, rfl, Nat.le_refl _⟩
theorem Nm.con (x : Nat) : Nm ρ (eC (.int (x : Int))) x := ⟨_, _, rfl, Nat.le_refl _⟩
theorem Nm.add (h1 : Nm ρ a n) (h2 : Nm ρ b m) : Nm ρ (op2 gAdd a b) (n + m) := by
  obtain ⟨q, x, e, l⟩ := h1
  obtain ⟨q', y, e', l'⟩ := h2
  exact ⟨_, _, addN e e', by omega⟩
theorem Tx.to (h1 : Tx ρ a n) (h2 : Nm ρ b m) (hz : n ≤ 16777216) : Tx ρ (eSl a (oSome (eC (.int 0))) (oSome b)) n := by
  obtain ⟨x, e, l⟩ := h1
  obtain ⟨q', y, e', l'⟩ := h2
  exact ⟨_, slTo e e' (by omega), by rw [List.length_take]; omega⟩
theorem Tx.from (h1 : Tx ρ a n) (h2 : Nm ρ b m) (hz : n ≤ 16777216) : Tx ρ (eSl a (oSome b) oNo) n := by
  obtain ⟨x, e, l⟩ := h1
  obtain ⟨q', y, e', l'⟩ := h2
  exact ⟨_, slFrom e e' (by omega), by rw [List.length_drop]; omega⟩
theorem Nm.len (h : Tx ρ a n) (hz : n ≤ 16777216) : Nm ρ (op1 gLen a) n := by
  obtain ⟨x, e, l⟩ := h
  exact ⟨_, _, lenS e (by omega), l⟩
theorem Nm.mod (h1 : Nm ρ a n) (h2 : ∃ k, ∃ v : Nat, b ρ = .ok (k, .int v) ∧ 0 < v ∧ v ≤ m + 1) : Nm ρ (op2 gMod a b) m := by
  obtain ⟨q, x, e, l⟩ := h1
  obtain ⟨q', y, e', l0, l'⟩ := h2
  refine ⟨.cl, x % y, op2_ok e e' ((gMod_i (by omega)).trans (congrArg (fun z => R.ok (Kd.cl, D.int z)) (Int.natCast_emod _ _).symm)), ?_⟩
  have := Nat.mod_lt x l0
  omega
theorem pos_add (h1 : Nm ρ a n) (hm : 0 < m) : ∃ k, ∃ v : Nat, op2 gAdd a (eC (.int (m : Int))) ρ = .ok (k, .int v) ∧ 0 < v ∧ v ≤ n + m := by
  obtain ⟨q, x, e, l⟩ := h1
  exact ⟨_, _, addN e (k2 := .cl) (y := m) rfl, by omega, by omega⟩
theorem Nm.ix {ds : List Nat} (h1 : ∃ k, a ρ = .ok (k, numD ds)) (h2 : ∃ k, b ρ = .ok (k, .int (m : Nat))) (hm : m < ds.length) : Nm ρ (op2 gIx a b) (ds[m]) := by
  obtain ⟨k, e⟩ := h1
  obtain ⟨k', e'⟩ := h2
  exact ⟨_, _, ixN_ok e e' hm, Nat.le_refl _⟩
theorem TxA.nil : TxA ρ aNil 0 n := ⟨[], [], rfl, rfl, rfl, rfl, fun _ h => absurd h List.not_mem_nil⟩
theorem TxA.cons {k : Nat} (h : Tx ρ a k) (hk : k ≤ n) (hs : TxA ρ fs c1 n) : TxA ρ (aCons a fs) (c1 + 1) n := by
  obtain ⟨x, e, l⟩ := h
  obtain ⟨es, xs, e1, e2, e3, e4, e5⟩ := hs
  refine ⟨(.cl, .str x) :: es, x :: xs, aCons_ok e e1, by rw [List.map_cons, List.map_cons, e2], ?_, by rw [List.length_cons, e4], fun y hy => (List.mem_cons.mp hy).elim (fun z => by rw [z]; omega) (e5 y)⟩
  rw [List.all_cons, e3, Bool.and_true]
  rfl
theorem Ls.disp (h : TxA ρ fs c1 n) (hz : c1 ≤ 16777216) : ∃ xs : List (List Nat), disp (fun ds => (.fr, .lst ds)) fs ρ = .ok (.fr, .lst (xs.map D.str)) ∧ xs.length ≤ c1 ∧ ∀ x ∈ xs, x.length ≤ n := by
  obtain ⟨es, xs, e1, e2, e3, e4, e5⟩ := h
  refine ⟨xs, disp_ok e1 e3 ?_ e2, by omega, e5⟩
  have := congrArg List.length e2
  rw [List.length_map, List.length_map] at this
  omega
end
theorem lcA_ex {α : Type} {h : D → R (Option D)} {k : α → D} {P : List Nat → Prop} : ∀ {xs : List α}, (∀ a ∈ xs, ∃ y, h (k a) = .ok (some (.str y)) ∧ P y) → ∃ ys : List (List Nat), lcA h (xs.map k) = .ok (ys.map D.str) ∧ ys.length = xs.length ∧ ∀ y ∈ ys, P y
  | [], _ => ⟨[], rfl, rfl, fun _ hy => absurd hy List.not_mem_nil⟩
  | a :: xs, q => by
    obtain ⟨y, h1, h2⟩ := q a List.mem_cons_self
    obtain ⟨ys, h3, h4, h5⟩ := lcA_ex fun e he => q e (List.mem_cons_of_mem _ he)
    refine ⟨y :: ys, ?_, by rw [List.length_cons, List.length_cons, h4], fun z hz => (List.mem_cons.mp hz).elim (fun e => by rw [e]; exact h2) (h5 z)⟩
    rw [List.map_cons]
    unfold lcA
    rw [h1, h3]
    rfl
theorem md_ok {ρ : Ro} {fa fb : EF} {k k2 : Kd} {x y : Nat} (h1 : fa ρ = .ok (k, .int x)) (h2 : fb ρ = .ok (k2, .int y)) (h3 : 0 < y) : op2 gMod fa fb ρ = .ok (.cl, .int ((x % y : Nat) : Int)) :=
  op2_ok h1 h2 ((gMod_i (by omega)).trans (congrArg (fun z => R.ok (Kd.cl, D.int z)) (Int.natCast_emod _ _).symm))
theorem cI (n : Nat) (ρ : Ro) : eC (.int n) ρ = .ok (.cl, .int (n : Int)) := rfl
end PL
set_option Elab.async false
set_option linter.all false
set_option maxRecDepth 100000
set_option maxHeartbeats 4000000
namespace PL
open PySem PySem.Spec L2
def topS (i : Nat) : Stmt := PySem.Challenge.pw_asifanew_k55_rows_of_words.main.body.getD i (.Pass ⟨0, 0, 0, 0⟩)
abbrev st_write_text : Stmt := topS 5
abbrev N_write_text : List Str := ["string", "inner"]
theorem sc_write_text : FnScope N_write_text ["string"] (defScope st_write_text) := ⟨rfl, rfl, rfl, by decide +kernel, rfl, by decide +kernel, by decide +kernel⟩
abbrev st_demand : Stmt := topS 10
abbrev N_demand : List Str := ["good"]
theorem sc_demand : FnScope N_demand ["good"] (defScope st_demand) := ⟨rfl, rfl, rfl, by decide +kernel, rfl, by decide +kernel, by decide +kernel⟩
abbrev st_quoted_from : Stmt := topS 11
abbrev N_quoted_from : List Str := ["row", "at", "found"]
theorem sc_quoted_from : FnScope N_quoted_from ["row", "at"] (defScope st_quoted_from) := ⟨rfl, rfl, rfl, by decide +kernel, rfl, by decide +kernel, by decide +kernel⟩
abbrev st_plain_from : Stmt := topS 12
abbrev N_plain_from : List Str := ["row", "at", "end", "word"]
theorem sc_plain_from : FnScope N_plain_from ["row", "at"] (defScope st_plain_from) := ⟨rfl, rfl, rfl, by decide +kernel, rfl, by decide +kernel, by decide +kernel⟩
abbrev st_words_of : Stmt := topS 13
abbrev N_words_of : List Str := ["row", "sign", "found", "at", "word"]
theorem sc_words_of : FnScope N_words_of ["row"] (defScope st_words_of) := ⟨rfl, rfl, rfl, by decide +kernel, rfl, by decide +kernel, by decide +kernel⟩
abbrev st_row_of : Stmt := topS 14
abbrev N_row_of : List Str := ["words", "word"]
theorem sc_row_of : FnScope N_row_of ["words"] (defScope st_row_of) := ⟨rfl, rfl, rfl, by decide +kernel, rfl, by decide +kernel, by decide +kernel⟩
abbrev st__law_cell : Stmt := topS 16
abbrev N__law_cell : List Str := ["script", "k"]
theorem sc__law_cell : FnScope N__law_cell ["script", "k"] (defScope st__law_cell) := ⟨rfl, rfl, rfl, by decide +kernel, rfl, by decide +kernel, by decide +kernel⟩
abbrev st__law_numbers : Stmt := topS 17
abbrev N__law_numbers : List Str := ["cell", "count", "limit", "found", "k", "mixed"]
theorem sc__law_numbers : FnScope N__law_numbers ["cell", "count", "limit"] (defScope st__law_numbers) := ⟨rfl, rfl, rfl, by decide +kernel, rfl, by decide +kernel, by decide +kernel⟩
abbrev st__law_same : Stmt := topS 18
abbrev N__law_same : List Str := ["told", "due", "k"]
theorem sc__law_same : FnScope N__law_same ["told", "due"] (defScope st__law_same) := ⟨rfl, rfl, rfl, by decide +kernel, rfl, by decide +kernel, by decide +kernel⟩
abbrev st__law_quoted : Stmt := topS 19
abbrev N__law_quoted : List Str := ["text"]
theorem sc__law_quoted : FnScope N__law_quoted ["text"] (defScope st__law_quoted) := ⟨rfl, rfl, rfl, by decide +kernel, rfl, by decide +kernel, by decide +kernel⟩
abbrev st__law_row : Stmt := topS 20
abbrev N__law_row : List Str := ["words", "found", "word"]
theorem sc__law_row : FnScope N__law_row ["words"] (defScope st__law_row) := ⟨rfl, rfl, rfl, by decide +kernel, rfl, by decide +kernel, by decide +kernel⟩
abbrev st__law_words : Stmt := topS 21
abbrev N__law_words : List Str := ["row", "sign", "found", "rest", "text", "at"]
theorem sc__law_words : FnScope N__law_words ["row"] (defScope st__law_words) := ⟨rfl, rfl, rfl, by decide +kernel, rfl, by decide +kernel, by decide +kernel⟩
abbrev st__law_signs : Stmt := topS 22
abbrev N__law_signs : List Str := ["draw", "count", "known", "number"]
theorem sc__law_signs : FnScope N__law_signs ["draw", "count"] (defScope st__law_signs) := ⟨rfl, rfl, rfl, by decide +kernel, rfl, by decide +kernel, by decide +kernel⟩
abbrev st__law_bent : Stmt := topS 23
abbrev N__law_bent : List Str := ["text", "draws", "at", "signs", "spot", "sign", "kind"]
theorem sc__law_bent : FnScope N__law_bent ["text", "draws", "at"] (defScope st__law_bent) := ⟨rfl, rfl, rfl, by decide +kernel, rfl, by decide +kernel, by decide +kernel⟩
abbrev st__law_asked : Stmt := topS 24
abbrev N__law_asked : List Str := ["row", "e"]
theorem sc__law_asked : FnScope N__law_asked ["row"] (defScope st__law_asked) := ⟨rfl, rfl, rfl, by decide +kernel, rfl, by decide +kernel, by decide +kernel⟩
abbrev st__law_due : Stmt := topS 25
abbrev N__law_due : List Str := ["row", "words"]
theorem sc__law_due : FnScope N__law_due ["row"] (defScope st__law_due) := ⟨rfl, rfl, rfl, by decide +kernel, rfl, by decide +kernel, by decide +kernel⟩
abbrev st_law : Stmt := topS 26
abbrev N_law : List Str := ["script", "draws", "k", "words", "j", "text", "plain", "sign", "row", "told", "odd", "other"]
theorem sc_law : FnScope N_law ["script"] (defScope st_law) := ⟨rfl, rfl, rfl, by decide +kernel, rfl, by decide +kernel, by decide +kernel⟩
def dict_ESCAPES : List (List Nat × List Nat) := [([92, 92], [92]), ([92, 34], [34]), ([92, 110], [10])]
/-! the denotations -/
def B_write_text : SF :=
    sSeq (sSet 1 (op1 (gRepl [10] [92, 110]) (op1 (gRepl [34] [92, 34]) (op1 (gRepl [92] [92, 92]) (eVar 0))))) <|
    sSeq (sRet (op2 gAdd (op2 gAdd (eC (.str [34])) (eVar 1)) (eC (.str [34])))) <|
    sSkip
def F_write_text : FD := fnD 2 1 B_write_text
def B_demand : SF :=
    sIf (tNotF (tVal (eVar 0))) (sRaise "InvalidText") (sSkip)
def F_demand : FD := fnD 1 1 B_demand
def B_quoted_from : SF :=
    sSeq (sSet 2 (eC (.str []))) <|
    sSeq (sAug 1 (fun i j => i + j) (eC (.int 1))) <|
    sSeq (whileL (t2 gNe (eSl (eVar 0) (oSome (eVar 1)) (oSome (op2 gAdd (eVar 1) (eC (.int 1))))) (eC (.str [34]))) (sSeq (sDrop (eCall (F_demand) 1 (aCons (op2 gLt (eVar 1) (op1 gLen (eVar 0))) (aNil)))) <|
    sIf (t2 gEq (op2 gIx (eVar 0) (eVar 1)) (eC (.str [92]))) (sSeq (sDrop (eCall (F_demand) 1 (aCons (op1 (gKin dict_ESCAPES) (eSl (eVar 0) (oSome (eVar 1)) (oSome (op2 gAdd (eVar 1) (eC (.int 2)))))) (aNil)))) <|
    sSeq (sSet 2 (op2 gAdd (eVar 2) (op1 (gKix dict_ESCAPES) (eSl (eVar 0) (oSome (eVar 1)) (oSome (op2 gAdd (eVar 1) (eC (.int 2)))))))) <|
    sAug 1 (fun i j => i + j) (eC (.int 2))) (sSeq (sSet 2 (op2 gAdd (eVar 2) (op2 gIx (eVar 0) (eVar 1)))) <|
    sAug 1 (fun i j => i + j) (eC (.int 1)))) 100000) <|
    sRet (disp (fun ds => (.cl, .tup ds)) (aCons (disp (fun ds => (.cl, .tup ds)) (aCons (eC (.str [116, 101, 120, 116])) (aCons (eVar 2) (aNil)))) (aCons (op2 gAdd (eVar 1) (eC (.int 1))) (aNil))))
def F_quoted_from : FD := fnD 3 2 B_quoted_from
def B_plain_from : SF :=
    sSeq (sSet 2 (eFind (eVar 0) (eC (.str [32])) (eVar 1))) <|
    sSeq (sSet 2 (eIf (t2 gLt (eVar 2) (eC (.int 0))) (op1 gLen (eVar 0)) (eVar 2))) <|
    sSeq (sSet 3 (eSl (eVar 0) (oSome (eVar 1)) (oSome (eVar 2)))) <|
    sSeq (sDrop (eCall (F_demand) 1 (aCons (eAnd (op2 gNe (eVar 3) (eC (.str []))) (op2 (gIn true) (eC (.str [34])) (eVar 3))) (aNil)))) <|
    sRet (disp (fun ds => (.cl, .tup ds)) (aCons (eVar 3) (aCons (eVar 2) (aNil))))
def F_plain_from : FD := fnD 4 2 B_plain_from
def B_words_of : SF :=
    sSeq (sDrop (eCall (F_demand) 1 (aCons (op1 (gAllAny true) (lcF (iVal (eVar 0)) [1] (gNm 1) (tYesF) (chn gLe gLe (eC (.str [32])) (eVar 1) (eC (.str [126]))))) (aNil)))) <|
    sSeq (sSet 2 (disp (fun ds => (.fr, .lst ds)) (aNil))) <|
    sSeq (sSet 3 (eC (.int 0))) <|
    sSeq (whileL (t2 gLe (eVar 3) (op1 gLen (eVar 0))) (sSeq (sAsg (eIf (t2 gEq (eSl (eVar 0) (oSome (eVar 3)) (oSome (op2 gAdd (eVar 3) (eC (.int 1))))) (eC (.str [34]))) (eCall (F_quoted_from) 2 (aCons (eVar 0) (aCons (eVar 3) (aNil)))) (eCall (F_plain_from) 2 (aCons (eVar 0) (aCons (eVar 3) (aNil))))) (gTp 2 (gsCons (gNm 4) (gsCons (gNm 3) (gsNil))))) <|
    sSeq (sApp 2 (eVar 4)) <|
    sSeq (sDrop (eCall (F_demand) 1 (aCons (eOr (op2 gEq (eVar 3) (op1 gLen (eVar 0))) (op2 gEq (op2 gIx (eVar 0) (eVar 3)) (eC (.str [32])))) (aNil)))) <|
    sAug 3 (fun i j => i + j) (eC (.int 1))) 100000) <|
    sRetV 2
def F_words_of : FD := fnD 5 1 B_words_of
def B_row_of : SF :=
    sRet (mth1 gJoin (eC (.str [32])) (lcF (iVal (eVar 0)) [1] (gNm 1) (tYesF) (eIf (tVal (eIsi "str" (eVar 1))) (eVar 1) (eCall (F_write_text) 1 (aCons (op2 gIx (eVar 1) (eC (.int 1))) (aNil))))))
def F_row_of : FD := fnD 2 1 B_row_of
def B__law_cell : SF :=
    sSeq (sIf (t2 gLt (eVar 1) (op1 gLen (eVar 0))) (sRet (op1 gInt (op2 gIx (eVar 0) (eVar 1)))) (sSkip)) <|
    sRet (eC (.int 0))
def F__law_cell : FD := fnD 2 2 B__law_cell
def B__law_numbers : SF :=
    sSeq (sSet 3 (disp (fun ds => (.fr, .lst ds)) (aNil))) <|
    sSeq (sIf (t2 gGe (eVar 0) (op2 gPow (eC (.int 10)) (eC (.int 18)))) (sSeq (sFor (iRng (eVar 1)) (gNm 4) (sSeq (sApp 3 (op2 gMod (op1 gInt (eVar 0)) (eVar 2))) <|
    sSet 0 (op2 gFdiv (op1 gInt (eVar 0)) (eVar 2)))) <|
    sRetV 3) (sSkip)) <|
    sSeq (sFor (iRng (eVar 1)) (gNm 4) (sSeq (sSet 5 (op2 gMod (op1 gInt (op2 gAdd (op2 gAdd (op2 gMulI (eVar 0) (eC (.int 48271))) (op2 gMulI (eVar 4) (eC (.int 69621)))) (eC (.int 7)))) (eC (.int 2147483647)))) <|
    sSeq (sSet 5 (op2 gMod (op1 gInt (op2 gAdd (op2 gAdd (op2 gAdd (op2 gMulI (eVar 5) (eVar 5)) (op2 gMulI (eVar 5) (eC (.int 40692)))) (op2 gMulI (eVar 4) (eC (.int 16807)))) (eC (.int 11)))) (eC (.int 2147483399)))) <|
    sApp 3 (op2 gMod (op1 gInt (op2 gFdiv (eVar 5) (eC (.int 32)))) (eVar 2)))) <|
    sRetV 3
def F__law_numbers : FD := fnD 6 3 B__law_numbers
def B__law_same (G : FD) : SF :=
    sSeq (sIf (tVal (eIsi "list" (eVar 1))) (sIf (tOrF (tNotF (tVal (eIsi "list" (eVar 0)))) (t2 gNe (op1 gLen (eVar 0)) (op1 gLen (eVar 1)))) (sRet (eC (.bl false))) (sSkip)) (sIf (tVal (eIsi "tuple" (eVar 1))) (sIf (tOrF (tNotF (tVal (eIsi "tuple" (eVar 0)))) (t2 gNe (op1 gLen (eVar 0)) (op1 gLen (eVar 1)))) (sRet (eC (.bl false))) (sSkip)) (sIf (tE' (eIsN false (eVar 1))) (sRet (eIsN false (eVar 0))) (sIf (tVal (eIsi "bool" (eVar 1))) (sRet (eAnd (eIsi "bool" (eVar 0)) (op2 gEq (eVar 0) (eVar 1)))) (sIf (tVal (eIsi "int" (eVar 1))) (sRet (eAnd (eIsi "int" (eVar 0)) (eAnd (eNot (eIsi "bool" (eVar 0))) (op2 gEq (eVar 0) (eVar 1))))) (sRet (eAnd (eIsi "str" (eVar 0)) (op2 gEq (eVar 0) (eVar 1))))))))) <|
    sSeq (sFor (iRng (op1 gLen (eVar 1))) (gNm 2) (sIf (tNotF (tVal (eCall (G) 2 (aCons (op2 gIx (eVar 0) (eVar 2)) (aCons (op2 gIx (eVar 1) (eVar 2)) (aNil)))))) (sRet (eC (.bl false))) (sSkip))) <|
    sRet (eC (.bl true))
def F__law_same : Nat → FD
  | 0 => fun _ => .bad
  | k + 1 => fnD 3 2 (B__law_same (F__law_same k))
def B__law_quoted : SF :=
    sSeq (sRet (op2 gAdd (op2 gAdd (eC (.str [34])) (op1 (gRepl [10] [92, 110]) (op1 (gRepl [34] [92, 34]) (op1 (gRepl [92] [92, 92]) (eVar 0))))) (eC (.str [34])))) <|
    sSkip
def F__law_quoted : FD := fnD 1 1 B__law_quoted
def B__law_row : SF :=
    sSeq (sSet 1 (disp (fun ds => (.fr, .lst ds)) (aNil))) <|
    sSeq (sFor (iVal (eVar 0)) (gNm 2) (sIf (tVal (eIsi "str" (eVar 2))) (sApp 1 (eVar 2)) (sApp 1 (eCall (F__law_quoted) 1 (aCons (op2 gIx (eVar 2) (eC (.int 1))) (aNil)))))) <|
    sRet (mth1 gJoin (eC (.str [32])) (eVar 1))
def F__law_row : FD := fnD 3 1 B__law_row
def B__law_words : SF :=
    sSeq (sIf (tOrF (t2 gEq (eVar 0) (eC (.str []))) (t2 gGt (op1 gLen (lcF (iVal (eVar 0)) [1] (gNm 1) (tOrF (t2 gLt (eVar 1) (eC (.str [32]))) (t2 gGt (eVar 1) (eC (.str [126])))) (eVar 1))) (eC (.int 0)))) (sRet (eC .non)) (sSkip)) <|
    sSeq (sSet 2 (disp (fun ds => (.fr, .lst ds)) (aNil))) <|
    sSeq (sSet 3 (op2 gAdd (eVar 0) (eC (.str [32])))) <|
    sSeq (whileL (t2 gNe (eVar 3) (eC (.str []))) (sIf (t2 gEq (op2 gIx (eVar 3) (eC (.int 0))) (eC (.str [34]))) (sSeq (sSet 4 (eC (.str []))) <|
    sSeq (sSet 5 (eC (.int 1))) <|
    sSeq (whileL (tAndF (t2 gLt (eVar 5) (op1 gLen (eVar 3))) (t2 gNe (op2 gIx (eVar 3) (eVar 5)) (eC (.str [34])))) (sSeq (sSet 1 (op2 gIx (eVar 3) (eVar 5))) <|
    sSeq (sIf (t2 gEq (eVar 1) (eC (.str [92]))) (sSeq (sIf (t2 (gIn true) (eSl (eVar 3) (oSome (op2 gAdd (eVar 5) (eC (.int 1)))) (oSome (op2 gAdd (eVar 5) (eC (.int 2))))) (disp (fun ds => (.fr, .lst ds)) (aCons (eC (.str [92])) (aCons (eC (.str [34])) (aCons (eC (.str [110])) (aNil)))))) (sRet (eC .non)) (sSkip)) <|
    sSeq (sSet 1 (op1 (gKix [([92], [92]), ([34], [34]), ([110], [10])]) (op2 gIx (eVar 3) (op2 gAdd (eVar 5) (eC (.int 1)))))) <|
    sSet 5 (op2 gAdd (eVar 5) (eC (.int 1)))) (sSkip)) <|
    sSeq (sSet 4 (op2 gAdd (eVar 4) (eVar 1))) <|
    sSet 5 (op2 gAdd (eVar 5) (eC (.int 1)))) 100000) <|
    sSeq (sIf (t2 gNe (eSl (eVar 3) (oSome (op2 gAdd (eVar 5) (eC (.int 1)))) (oSome (op2 gAdd (eVar 5) (eC (.int 2))))) (eC (.str [32]))) (sRet (eC .non)) (sSkip)) <|
    sSeq (sApp 2 (disp (fun ds => (.cl, .tup ds)) (aCons (eC (.str [116, 101, 120, 116])) (aCons (eVar 4) (aNil))))) <|
    sSet 3 (eSl (eVar 3) (oSome (op2 gAdd (eVar 5) (eC (.int 2)))) (oNo))) (sSeq (sSet 5 (mth1 gIdx (eVar 3) (eC (.str [32])))) <|
    sSeq (sIf (tOrF (t2 gEq (eVar 5) (eC (.int 0))) (t2 (gIn false) (eC (.str [34])) (eSl (eVar 3) (oSome (eC (.int 0))) (oSome (eVar 5))))) (sRet (eC .non)) (sSkip)) <|
    sSeq (sApp 2 (eSl (eVar 3) (oSome (eC (.int 0))) (oSome (eVar 5)))) <|
    sSet 3 (eSl (eVar 3) (oSome (op2 gAdd (eVar 5) (eC (.int 1)))) (oNo)))) 100000) <|
    sRetV 2
def F__law_words : FD := fnD 6 1 B__law_words
def B__law_signs : SF :=
    sSeq (sSet 2 (eC (.str [32, 33, 34, 35, 36, 38, 39, 40, 41, 42, 43, 44, 45, 46, 47, 48, 49, 50, 51, 52, 53, 54, 55, 56, 57, 58, 59, 60, 61, 62, 63, 64, 65, 66, 67, 88, 89, 90, 91, 92, 93, 94, 95, 97, 98, 99, 100, 101, 102, 103, 104, 105, 106, 107, 108, 109, 110, 111, 112, 113, 114, 115, 116, 117, 118, 119, 120, 121, 122, 123, 124, 125, 126, 10]))) <|
    sRet (mth1 gJoin (eC (.str [])) (lcF (iVal (eCall (F__law_numbers) 3 (aCons (eVar 0) (aCons (eVar 1) (aCons (op1 gLen (eVar 2)) (aNil)))))) [3] (gNm 3) (tYesF) (op2 gIx (eVar 2) (eVar 3))))
def F__law_signs : FD := fnD 4 2 B__law_signs
def B__law_bent : SF :=
    sSeq (sSet 3 (eC (.str [48, 49, 50, 51, 52, 53, 54, 55, 56, 57, 32, 10, 44, 47, 34, 92, 97, 98, 100, 110, 116, 64, 42, 124, 126]))) <|
    sSeq (sSet 4 (op2 gMod (op2 gIx (eVar 1) (eVar 2)) (op2 gAdd (op1 gLen (eVar 0)) (eC (.int 1))))) <|
    sSeq (sSet 5 (op2 gIx (eVar 3) (op2 gMod (op2 gIx (eVar 1) (op2 gAdd (eVar 2) (eC (.int 1)))) (op1 gLen (eVar 3))))) <|
    sSeq (sSet 6 (op2 gMod (op2 gIx (eVar 1) (op2 gAdd (eVar 2) (eC (.int 2)))) (eC (.int 7)))) <|
    sSeq (sIf (t2 gEq (eVar 6) (eC (.int 0))) (sRet (op2 gAdd (eSl (eVar 0) (oSome (eC (.int 0))) (oSome (eVar 4))) (eSl (eVar 0) (oSome (op2 gAdd (eVar 4) (eC (.int 1)))) (oNo)))) (sSkip)) <|
    sSeq (sIf (t2 gEq (eVar 6) (eC (.int 1))) (sRet (op2 gAdd (op2 gAdd (eSl (eVar 0) (oSome (eC (.int 0))) (oSome (eVar 4))) (eVar 5)) (eSl (eVar 0) (oSome (op2 gAdd (eVar 4) (eC (.int 1)))) (oNo)))) (sSkip)) <|
    sSeq (sIf (t2 gEq (eVar 6) (eC (.int 2))) (sRet (eSl (eVar 0) (oSome (eC (.int 0))) (oSome (eVar 4)))) (sSkip)) <|
    sSeq (sIf (t2 gEq (eVar 6) (eC (.int 3))) (sRet (op2 gAdd (eVar 0) (eVar 5))) (sSkip)) <|
    sSeq (sIf (t2 gEq (eVar 6) (eC (.int 4))) (sRet (op2 gAdd (eVar 5) (eVar 0))) (sSkip)) <|
    sSeq (sIf (t2 gEq (eVar 6) (eC (.int 5))) (sRet (op2 gAdd (eSl (eVar 0) (oSome (eC (.int 0))) (oSome (eVar 4))) (eSl (eVar 0) (oSome (op2 gMod (op2 gIx (eVar 1) (op2 gAdd (eVar 2) (eC (.int 1)))) (op2 gAdd (op1 gLen (eVar 0)) (eC (.int 1))))) (oNo)))) (sSkip)) <|
    sRet (op2 gAdd (op2 gAdd (eSl (eVar 0) (oSome (eC (.int 0))) (oSome (eVar 4))) (eVar 5)) (eSl (eVar 0) (oSome (eVar 4)) (oNo)))
def F__law_bent : FD := fnD 7 3 B__law_bent
def B__law_asked : SF :=
    sTryC 1 "InvalidText" (sRet (eCall (F_words_of) 1 (aCons (eVar 0) (aNil)))) [114, 101, 102, 117, 115, 101, 100]
def F__law_asked : FD := fnD 2 1 B__law_asked
def B__law_due : SF :=
    sSeq (sSet 1 (eCall (F__law_words) 1 (aCons (eVar 0) (aNil)))) <|
    sSeq (sIf (tE' (eIsN false (eVar 1))) (sRet (eC (.str [114, 101, 102, 117, 115, 101, 100]))) (sSkip)) <|
    sRetV 1
def F__law_due : FD := fnD 2 1 B__law_due
def B_law : SF :=
    sSeq (sSet 1 (eCall (F__law_numbers) 3 (aCons (eCall (F__law_cell) 2 (aCons (eVar 0) (aCons (eC (.int 0)) (aNil)))) (aCons (eC (.int 60)) (aCons (eC (.int 5040)) (aNil)))))) <|
    sSeq (sFor (iRng (eC (.int 5))) (gNm 2) (sSeq (sSet 3 (disp (fun ds => (.fr, .lst ds)) (aNil))) <|
    sSeq (sFor (iRng (op2 gAdd (eC (.int 1)) (op2 gMod (op2 gIx (eVar 1) (eVar 2)) (eC (.int 4))))) (gNm 4) (sSeq (sSet 5 (eCall (F__law_signs) 2 (aCons (op2 gIx (eVar 1) (op2 gAdd (op2 gAdd (eC (.int 5)) (op2 gMulI (eC (.int 4)) (eVar 2))) (eVar 4))) (aCons (op2 gMod (op2 gIx (eVar 1) (op2 gAdd (eC (.int 25)) (eVar 2))) (eC (.int 9))) (aNil))))) <|
    sSeq (sSet 6 (mth1 gJoin (eC (.str [])) (lcF (iVal (eVar 5)) [7] (gNm 7) (tAndF (t2 gNe (eVar 7) (eC (.str [32]))) (tAndF (t2 gNe (eVar 7) (eC (.str [10]))) (t2 gNe (eVar 7) (eC (.str [34]))))) (eVar 7)))) <|
    sApp 3 (op2 gIx (disp (fun ds => (.fr, .lst ds)) (aCons (disp (fun ds => (.cl, .tup ds)) (aCons (eC (.str [116, 101, 120, 116])) (aCons (eVar 5) (aNil)))) (aCons (op2 gAdd (eVar 6) (eC (.str [97]))) (aCons (disp (fun ds => (.cl, .tup ds)) (aCons (eC (.str [116, 101, 120, 116])) (aCons (eC (.str [])) (aNil)))) (aCons (op2 gAdd (eC (.str [45])) (op1 gStr (eVar 4))) (aNil)))))) (op2 gMod (op2 gIx (eVar 1) (op2 gAdd (op2 gAdd (eC (.int 5)) (op2 gMulI (eC (.int 4)) (eVar 2))) (eVar 4))) (eC (.int 4)))))) <|
    sSeq (sSet 8 (eCall (F_row_of) 1 (aCons (eVar 3) (aNil)))) <|
    sSeq (sIf (tOrF (tNotF (tVal (eCall (F__law_same 3) 2 (aCons (eVar 8) (aCons (eCall (F__law_row) 1 (aCons (eVar 3) (aNil))) (aNil)))))) (tNotF (tVal (eCall (F__law_same 3) 2 (aCons (eCall (F_words_of) 1 (aCons (eVar 8) (aNil))) (aCons (eVar 3) (aNil))))))) (sRet (eC (.bl false))) (sSkip)) <|
    sSeq (sSet 9 (eCall (F_words_of) 1 (aCons (eVar 8) (aNil)))) <|
    sSeq (sApp 9 (eC (.str [99, 104, 97, 110, 103, 101, 100]))) <|
    sSeq (sSet 10 (disp (fun ds => (.fr, .lst ds)) (aCons (eVar 8) (aCons (op2 gAdd (eVar 8) (eC (.str [32]))) (aCons (op2 gAdd (eC (.str [32])) (eVar 8)) (aCons (op1 (gRepl [32] [32, 32]) (eVar 8)) (aCons (op2 gAdd (eVar 8) (eC (.str [34]))) (aCons (op2 gAdd (eC (.str [34])) (eVar 8)) (aCons (op2 gAdd (eVar 8) (eC (.str [92]))) (aCons (op2 gAdd (eVar 8) (eC (.str [32, 34, 92, 110, 34]))) (aCons (op2 gAdd (eVar 8) (eC (.str [32, 34, 92, 116, 34]))) (aNil)))))))))))) <|
    sFor (iVal (op2 gAdd (eVar 10) (disp (fun ds => (.fr, .lst ds)) (aCons (eCall (F__law_bent) 3 (aCons (eVar 8) (aCons (eVar 1) (aCons (op2 gAdd (eC (.int 30)) (op2 gMulI (eC (.int 3)) (eVar 2))) (aNil))))) (aCons (eCall (F__law_bent) 3 (aCons (eVar 8) (aCons (eVar 1) (aCons (op2 gAdd (eC (.int 45)) (eVar 2)) (aNil))))) (aNil)))))) (gNm 11) (sIf (tNotF (tVal (eCall (F__law_same 3) 2 (aCons (eCall (F__law_asked) 1 (aCons (eVar 11) (aNil))) (aCons (eCall (F__law_due) 1 (aCons (eVar 11) (aNil))) (aNil)))))) (sRet (eC (.bl false))) (sSkip)))) <|
    sSeq (sFor (iVal (disp (fun ds => (.fr, .lst ds)) (aCons (eC (.str [])) (aCons (eC (.str [32])) (aCons (eC (.str [97])) (aCons (eC (.str [34, 34])) (aCons (eC (.str [34, 34, 32, 97])) (aCons (eC (.str [34, 97, 34, 98])) (aCons (eC (.str [97, 34, 98, 34])) (aCons (eC (.str [34])) (aCons (eC (.str [34, 92, 34])) (aCons (eC (.str [34, 92, 92, 34])) (aCons (eC (.str [34, 92, 34, 34])) (aCons (eC (.str [97, 32, 32, 98])) (aCons (eC (.str [34, 97, 32, 98, 34, 32, 99])) (aCons (eC (.str [97, 10, 98])) (aCons (eC (.str [34, 97, 10, 98, 34])) (aCons (eC (.str [34, 92, 110, 34])) (aNil))))))))))))))))))) (gNm 8) (sIf (tNotF (tVal (eCall (F__law_same 3) 2 (aCons (eCall (F__law_asked) 1 (aCons (eVar 8) (aNil))) (aCons (eCall (F__law_due) 1 (aCons (eVar 8) (aNil))) (aNil)))))) (sRet (eC (.bl false))) (sSkip))) <|
    sRet (eCall (F__law_same 3) 2 (aCons (eCall (F_words_of) 1 (aCons (eC (.str [97, 32, 34, 98, 32, 99, 34, 32, 34, 92, 34, 92, 92, 92, 110, 34])) (aNil))) (aCons (disp (fun ds => (.fr, .lst ds)) (aCons (eC (.str [97])) (aCons (disp (fun ds => (.cl, .tup ds)) (aCons (eC (.str [116, 101, 120, 116])) (aCons (eC (.str [98, 32, 99])) (aNil)))) (aCons (disp (fun ds => (.cl, .tup ds)) (aCons (eC (.str [116, 101, 120, 116])) (aCons (eC (.str [34, 92, 10])) (aNil)))) (aNil))))) (aNil))))
def F_law : FD := fnD 12 1 B_law
/-! what the top has written -/
structure Top (w : World) (K : PySem.W.Frag) (mg : Str → Option Value) where
  a_write_text : Addr
  d_write_text : FuncData
  f_write_text : Fun K "write_text" "write_text" st_write_text a_write_text d_write_text
  g_write_text : mg "write_text" = some (.ref a_write_text)
  b_write_text : Binds K d_write_text ["string"] []
  a_demand : Addr
  d_demand : FuncData
  f_demand : Fun K "demand" "demand" st_demand a_demand d_demand
  g_demand : mg "demand" = some (.ref a_demand)
  b_demand : Binds K d_demand ["good"] []
  a_quoted_from : Addr
  d_quoted_from : FuncData
  f_quoted_from : Fun K "quoted_from" "quoted_from" st_quoted_from a_quoted_from d_quoted_from
  g_quoted_from : mg "quoted_from" = some (.ref a_quoted_from)
  b_quoted_from : Binds K d_quoted_from ["row", "at"] []
  a_plain_from : Addr
  d_plain_from : FuncData
  f_plain_from : Fun K "plain_from" "plain_from" st_plain_from a_plain_from d_plain_from
  g_plain_from : mg "plain_from" = some (.ref a_plain_from)
  b_plain_from : Binds K d_plain_from ["row", "at"] []
  a_words_of : Addr
  d_words_of : FuncData
  f_words_of : Fun K "words_of" "words_of" st_words_of a_words_of d_words_of
  g_words_of : mg "words_of" = some (.ref a_words_of)
  b_words_of : Binds K d_words_of ["row"] []
  a_row_of : Addr
  d_row_of : FuncData
  f_row_of : Fun K "row_of" "row_of" st_row_of a_row_of d_row_of
  g_row_of : mg "row_of" = some (.ref a_row_of)
  b_row_of : Binds K d_row_of ["words"] []
  a__law_cell : Addr
  d__law_cell : FuncData
  f__law_cell : Fun K "_law_cell" "_law_cell" st__law_cell a__law_cell d__law_cell
  g__law_cell : mg "_law_cell" = some (.ref a__law_cell)
  b__law_cell : Binds K d__law_cell ["script", "k"] []
  a__law_numbers : Addr
  d__law_numbers : FuncData
  f__law_numbers : Fun K "_law_numbers" "_law_numbers" st__law_numbers a__law_numbers d__law_numbers
  g__law_numbers : mg "_law_numbers" = some (.ref a__law_numbers)
  b__law_numbers : Binds K d__law_numbers ["cell", "count", "limit"] []
  a__law_same : Addr
  d__law_same : FuncData
  f__law_same : Fun K "_law_same" "_law_same" st__law_same a__law_same d__law_same
  g__law_same : mg "_law_same" = some (.ref a__law_same)
  b__law_same : Binds K d__law_same ["told", "due"] []
  a__law_quoted : Addr
  d__law_quoted : FuncData
  f__law_quoted : Fun K "_law_quoted" "_law_quoted" st__law_quoted a__law_quoted d__law_quoted
  g__law_quoted : mg "_law_quoted" = some (.ref a__law_quoted)
  b__law_quoted : Binds K d__law_quoted ["text"] []
  a__law_row : Addr
  d__law_row : FuncData
  f__law_row : Fun K "_law_row" "_law_row" st__law_row a__law_row d__law_row
  g__law_row : mg "_law_row" = some (.ref a__law_row)
  b__law_row : Binds K d__law_row ["words"] []
  a__law_words : Addr
  d__law_words : FuncData
  f__law_words : Fun K "_law_words" "_law_words" st__law_words a__law_words d__law_words
  g__law_words : mg "_law_words" = some (.ref a__law_words)
  b__law_words : Binds K d__law_words ["row"] []
  a__law_signs : Addr
  d__law_signs : FuncData
  f__law_signs : Fun K "_law_signs" "_law_signs" st__law_signs a__law_signs d__law_signs
  g__law_signs : mg "_law_signs" = some (.ref a__law_signs)
  b__law_signs : Binds K d__law_signs ["draw", "count"] []
  a__law_bent : Addr
  d__law_bent : FuncData
  f__law_bent : Fun K "_law_bent" "_law_bent" st__law_bent a__law_bent d__law_bent
  g__law_bent : mg "_law_bent" = some (.ref a__law_bent)
  b__law_bent : Binds K d__law_bent ["text", "draws", "at"] []
  a__law_asked : Addr
  d__law_asked : FuncData
  f__law_asked : Fun K "_law_asked" "_law_asked" st__law_asked a__law_asked d__law_asked
  g__law_asked : mg "_law_asked" = some (.ref a__law_asked)
  b__law_asked : Binds K d__law_asked ["row"] []
  a__law_due : Addr
  d__law_due : FuncData
  f__law_due : Fun K "_law_due" "_law_due" st__law_due a__law_due d__law_due
  g__law_due : mg "_law_due" = some (.ref a__law_due)
  b__law_due : Binds K d__law_due ["row"] []
  a_law : Addr
  d_law : FuncData
  f_law : Fun K "law" "law" st_law a_law d_law
  g_law : mg "law" = some (.ref a_law)
  b_law : Binds K d_law ["script"] []
  z_len : mg "len" = none
  z_all : mg "all" = none
  z_isinstance : mg "isinstance" = none
  z_str : mg "str" = none
  z_int : mg "int" = none
  z_range : mg "range" = none
  z_list : mg "list" = none
  z_tuple : mg "tuple" = none
  z_bool : mg "bool" = none
  c_TEXT : ∃ t, mg "TEXT" = some (.str "text" t)
  c_QUOTE : ∃ t, mg "QUOTE" = some (.str "\"" t)
  d_ESCAPES : Addr
  g_ESCAPES : mg "ESCAPES" = some (.ref d_ESCAPES)
  t_ESCAPES : KT K w d_ESCAPES dict_ESCAPES
  k_InvalidText : Cl K mg "InvalidText"
  x_InvalidText : PySem.W.excIn K k_InvalidText.C [.type "ValueError", .type "Exception", .type "BaseException", .type "object"] "ValueError.__new__" = true
  e_InvalidText : PySem.W.exmOne K (.ref k_InvalidText.C) (.ref k_InvalidText.C) = some true
  i_InvalidText : ExcI K k_InvalidText.C
  C_BuildError : Addr
  m_BuildError : mg "BuildError" = some (.ref C_BuildError)
  C_InvalidTree : Addr
  m_InvalidTree : mg "InvalidTree" = some (.ref C_InvalidTree)
  y_InvalidText : PySem.W.kitOne K (.ref k_InvalidText.C) (.ref C_BuildError) = some true
  n_InvalidText : PySem.W.kitOne K (.ref k_InvalidText.C) (.ref C_InvalidTree) = some false
section
variable {P : Program} {w : World} {K : PySem.W.Frag} {mg : Str → Option Value} {base : Heap}
theorem ok_write_text (T : Top w K mg) : FnOk P w K mg base (L2.CX P w) (0 + 1) T.a_write_text T.d_write_text ["string"] (spD K mg 1 F_write_text) :=
  fn_denT T.f_write_text sc_write_text rfl (by decide +kernel) (by decide) fun cdv A outer s H E hr =>
    dsst_cons (dst_set 1 sc_write_text.nd rfl (.inl rfl) (det_repl [10] [92, 110] (det_repl [34] [92, 34] (det_repl [92] [92, 92] (det_of (de_var 0 (pv 0))))))) <|
    dsst_cons (dst_ret (det_of (de_add (de_add (de_str [34]) (de_var 1 (pv 1))) (de_str [34])))) <|
    dsst_of dss_nil
theorem ok_demand (T : Top w K mg) : FnOk P w K mg base (L2.CX P w) (0 + 1) T.a_demand T.d_demand ["good"] (spD K mg 1 F_demand) :=
  fn_den T.f_demand sc_demand rfl fun cdv A outer s H E hr =>
    dss_one (ds_if (dt_not (dt_truth (de_var 0 (pv 0)))) (dss_one (ds_raise rfl (takes_of rfl rfl rfl rfl) PySem.F.excBase_ValueError T.k_InvalidText T.x_InvalidText (by rfl))) (dss_nil))
theorem ok_quoted_from (T : Top w K mg) : FnOk P w K mg base (L2.CX P w) (1 + 1) T.a_quoted_from T.d_quoted_from ["row", "at"] (spD K mg 2 F_quoted_from) :=
  fn_den T.f_quoted_from sc_quoted_from rfl fun cdv A outer s H E hr =>
    dss_cons (ds_set 2 sc_quoted_from.nd rfl (.inl rfl) (de_str [])) <|
    dss_cons (ds_aug 1 ip_add sc_quoted_from.nd rfl (.inl rfl) (de_int)) <|
    dss_cons (ds_while 100000 (passes_of rfl) (dt_ne (un_of hr) (de_slice (de_var 0 (pv 0)) (do_some (de_var 1 (pv 1))) (do_some (de_add (de_var 1 (pv 1)) (de_int)))) (de_gstr [34] (by rfl) T.c_QUOTE.choose_spec)) (dss_cons (ds_expr (de_call ((ok_demand T).mono (by decide)) hr (by rfl) T.g_demand T.f_demand.kp T.b_demand (takes_of rfl rfl rfl rfl) (da_cons (de_lt (de_var 1 (pv 1)) (de_len (by rfl) T.z_len (de_var 0 (pv 0)))) (da_nil)))) <|
    dss_one (ds_if (dt_eq (un_of hr) (de_ix (de_var 0 (pv 0)) (de_var 1 (pv 1))) (de_str [92])) (dss_cons (ds_expr (de_call ((ok_demand T).mono (by decide)) hr (by rfl) T.g_demand T.f_demand.kp T.b_demand (takes_of rfl rfl rfl rfl) (da_cons (de_kin T.t_ESCAPES (by rfl) T.g_ESCAPES (de_slice (de_var 0 (pv 0)) (do_some (de_var 1 (pv 1))) (do_some (de_add (de_var 1 (pv 1)) (de_int))))) (da_nil)))) <|
    dss_cons (ds_set 2 sc_quoted_from.nd rfl (.inl rfl) (de_add (de_var 2 (pv 2)) (de_kix T.t_ESCAPES (by rfl) T.g_ESCAPES (de_slice (de_var 0 (pv 0)) (do_some (de_var 1 (pv 1))) (do_some (de_add (de_var 1 (pv 1)) (de_int))))))) <|
    dss_one (ds_aug 1 ip_add sc_quoted_from.nd rfl (.inl rfl) (de_int))) (dss_cons (ds_set 2 sc_quoted_from.nd rfl (.inl rfl) (de_add (de_var 2 (pv 2)) (de_ix (de_var 0 (pv 0)) (de_var 1 (pv 1))))) <|
    dss_one (ds_aug 1 ip_add sc_quoted_from.nd rfl (.inl rfl) (de_int)))))) <|
    dss_one (ds_ret (de_tup (da_cons (de_tup (da_cons (de_gstr [116, 101, 120, 116] (by rfl) T.c_TEXT.choose_spec) (da_cons (de_var 2 (pv 2)) (da_nil)))) (da_cons (de_add (de_var 1 (pv 1)) (de_int)) (da_nil)))))
theorem ok_plain_from (T : Top w K mg) : FnOk P w K mg base (L2.CX P w) (1 + 1) T.a_plain_from T.d_plain_from ["row", "at"] (spD K mg 2 F_plain_from) :=
  fn_den T.f_plain_from sc_plain_from rfl fun cdv A outer s H E hr =>
    dss_cons (ds_set 2 sc_plain_from.nd rfl (.inl rfl) (de_find (de_var 0 (pv 0)) (de_str [32]) (de_var 1 (pv 1)))) <|
    dss_cons (ds_set 2 sc_plain_from.nd rfl (.inl rfl) (de_if (dt_lt (de_var 2 (pv 2)) (de_int)) (de_len (by rfl) T.z_len (de_var 0 (pv 0))) (de_var 2 (pv 2)))) <|
    dss_cons (ds_set 3 sc_plain_from.nd rfl (.inl rfl) (de_slice (de_var 0 (pv 0)) (do_some (de_var 1 (pv 1))) (do_some (de_var 2 (pv 2))))) <|
    dss_cons (ds_expr (de_call ((ok_demand T).mono (by decide)) hr (by rfl) T.g_demand T.f_demand.kp T.b_demand (takes_of rfl rfl rfl rfl) (da_cons (de_and (de_ne (un_of hr) (de_var 3 (pv 3)) (de_str [])) (de_one (de_nin (de_gstr [34] (by rfl) T.c_QUOTE.choose_spec) (de_var 3 (pv 3))))) (da_nil)))) <|
    dss_one (ds_ret (de_tup (da_cons (de_var 3 (pv 3)) (da_cons (de_var 2 (pv 2)) (da_nil)))))
theorem ok_words_of (T : Top w K mg) : FnOk P w K mg base (L2.CX P w) (2 + 1) T.a_words_of T.d_words_of ["row"] (spD K mg 1 F_words_of) :=
  fn_den T.f_words_of sc_words_of rfl fun cdv A outer s H E hr =>
    dss_cons (ds_expr (de_call ((ok_demand T).mono (by decide)) hr (by rfl) T.g_demand T.f_demand.kp T.b_demand (takes_of rfl rfl rfl rfl) (da_cons (de_all rfl (by rfl) T.z_all (de_lc (own := [("sign", 1)]) rfl sc_words_of.nd (blkOk_by (by show blkC N_words_of (defScope st_words_of) _ _ = true; decide +kernel)) (by decide) (di_val (de_var 0 (pv 0))) (fun _ _ _ _ _ => dg_name 1 sc_words_of.nd rfl (.inl rfl) (.inr rfl)) (fun _ _ _ _ _ => dts_nil) (fun _ _ _ _ _ => de_lele (de_str [32]) (de_var 1 (pv 1)) (de_str [126])))) (da_nil)))) <|
    dss_cons (ds_set 2 sc_words_of.nd rfl (.inl rfl) (de_lst (da_nil))) <|
    dss_cons (ds_set 3 sc_words_of.nd rfl (.inl rfl) (de_int)) <|
    dss_cons (ds_while 100000 (passes_of rfl) (dt_le (de_var 3 (pv 3)) (de_len (by rfl) T.z_len (de_var 0 (pv 0)))) (dss_cons (ds_asg (de_if (dt_eq (un_of hr) (de_slice (de_var 0 (pv 0)) (do_some (de_var 3 (pv 3))) (do_some (de_add (de_var 3 (pv 3)) (de_int)))) (de_gstr [34] (by rfl) T.c_QUOTE.choose_spec)) (de_call ((ok_quoted_from T).mono (by decide)) hr (by rfl) T.g_quoted_from T.f_quoted_from.kp T.b_quoted_from (takes_of rfl rfl rfl rfl) (da_cons (de_var 0 (pv 0)) (da_cons (de_var 3 (pv 3)) (da_nil)))) (de_call ((ok_plain_from T).mono (by decide)) hr (by rfl) T.g_plain_from T.f_plain_from.kp T.b_plain_from (takes_of rfl rfl rfl rfl) (da_cons (de_var 0 (pv 0)) (da_cons (de_var 3 (pv 3)) (da_nil))))) (dg_tup rfl (dgs_cons (dg_name 4 sc_words_of.nd rfl (.inl rfl) (.inl rfl)) (dgs_cons (dg_name 3 sc_words_of.nd rfl (.inl rfl) (.inl rfl)) (dgs_nil))))) <|
    dss_cons (ds_app 2 (pv 2) (de_var 4 (pv 4))) <|
    dss_cons (ds_expr (de_call ((ok_demand T).mono (by decide)) hr (by rfl) T.g_demand T.f_demand.kp T.b_demand (takes_of rfl rfl rfl rfl) (da_cons (de_or (de_eq (un_of hr) (de_var 3 (pv 3)) (de_len (by rfl) T.z_len (de_var 0 (pv 0)))) (de_one (de_eq (un_of hr) (de_ix (de_var 0 (pv 0)) (de_var 3 (pv 3))) (de_str [32])))) (da_nil)))) <|
    dss_one (ds_aug 3 ip_add sc_words_of.nd rfl (.inl rfl) (de_int)))) <|
    dss_one (ds_retV 2 (pv 2))
theorem ok_row_of (T : Top w K mg) : FnOk P w K mg base (L2.CX P w) (1 + 1) T.a_row_of T.d_row_of ["words"] (spD K mg 1 F_row_of) :=
  fn_den T.f_row_of sc_row_of rfl fun cdv A outer s H E hr =>
    dss_one (ds_ret (de_join (de_str [32]) (de_lc (own := [("word", 1)]) rfl sc_row_of.nd (blkOk_by (by show blkC N_row_of (defScope st_row_of) _ _ = true; decide +kernel)) (by decide) (di_val (de_var 0 (pv 0))) (fun _ _ _ _ _ => dg_name 1 sc_row_of.nd rfl (.inl rfl) (.inr rfl)) (fun _ _ _ _ _ => dts_nil) (fun _ _ _ _ _ => de_if (dt_truth (de_isi "str" k_str (by rfl) T.z_isinstance bt_isi (de_var 1 (pv 1)) (by rfl) T.z_str bt_str)) (de_var 1 (pv 1)) (de_call ((ok_write_text T).mono (by decide)) hr (by rfl) T.g_write_text T.f_write_text.kp T.b_write_text takes0 (da_cons (de_ix (de_var 1 (pv 1)) (de_int)) (da_nil)))))))
theorem ok__law_cell (T : Top w K mg) : FnOk P w K mg base (L2.CX P w) (0 + 1) T.a__law_cell T.d__law_cell ["script", "k"] (spD K mg 2 F__law_cell) :=
  fn_den T.f__law_cell sc__law_cell rfl fun cdv A outer s H E hr =>
    dss_cons (ds_if (dt_lt (de_var 1 (pv 1)) (de_len (by rfl) T.z_len (de_var 0 (pv 0)))) (dss_one (ds_ret (de_intc (by rfl) T.z_int (de_ix (de_var 0 (pv 0)) (de_var 1 (pv 1)))))) (dss_nil)) <|
    dss_one (ds_ret (de_int))
theorem ok__law_numbers (T : Top w K mg) : FnOk P w K mg base (L2.CX P w) (0 + 1) T.a__law_numbers T.d__law_numbers ["cell", "count", "limit"] (spD K mg 3 F__law_numbers) :=
  fn_den T.f__law_numbers sc__law_numbers rfl fun cdv A outer s H E hr =>
    dss_cons (ds_set 3 sc__law_numbers.nd rfl (.inl rfl) (de_lst (da_nil))) <|
    dss_cons (ds_if (dt_ge (de_var 0 (pv 0)) (de_pow (de_int) (de_int))) (dss_cons (ds_for (passes_of rfl) rfl (di_rng (by rfl) T.z_range (de_var 1 (pv 1))) (dg_name 4 sc__law_numbers.nd rfl (.inl rfl) (.inl rfl)) (dss_cons (ds_app 3 (pv 3) (de_mod (de_intc (by rfl) T.z_int (de_var 0 (pv 0))) (de_var 2 (pv 2)))) <|
    dss_one (ds_set 0 sc__law_numbers.nd rfl (.inl rfl) (de_fdiv (de_intc (by rfl) T.z_int (de_var 0 (pv 0))) (de_var 2 (pv 2)))))) <|
    dss_one (ds_retV 3 (pv 3))) (dss_nil)) <|
    dss_cons (ds_for (passes_of rfl) rfl (di_rng (by rfl) T.z_range (de_var 1 (pv 1))) (dg_name 4 sc__law_numbers.nd rfl (.inl rfl) (.inl rfl)) (dss_cons (ds_set 5 sc__law_numbers.nd rfl (.inl rfl) (de_mod (de_intc (by rfl) T.z_int (de_add (de_add (de_mulI (de_var 0 (pv 0)) (de_int)) (de_mulI (de_var 4 (pv 4)) (de_int))) (de_int))) (de_int))) <|
    dss_cons (ds_set 5 sc__law_numbers.nd rfl (.inl rfl) (de_mod (de_intc (by rfl) T.z_int (de_add (de_add (de_add (de_mulI (de_var 5 (pv 5)) (de_var 5 (pv 5))) (de_mulI (de_var 5 (pv 5)) (de_int))) (de_mulI (de_var 4 (pv 4)) (de_int))) (de_int))) (de_int))) <|
    dss_one (ds_app 3 (pv 3) (de_mod (de_intc (by rfl) T.z_int (de_fdiv (de_var 5 (pv 5)) (de_int))) (de_var 2 (pv 2)))))) <|
    dss_one (ds_retV 3 (pv 3))
theorem ok__law_same (T : Top w K mg) : ∀ k : Nat, FnOk P w K mg base (L2.CX P w) (k + 1) T.a__law_same T.d__law_same ["told", "due"] (spD K mg 2 (F__law_same k))
  | 0 => fn_bad rfl
  | k + 1 => by
    have HG := ok__law_same T k
    exact fn_den T.f__law_same sc__law_same rfl fun cdv A outer s H E hr =>
    dss_cons (ds_if (dt_truth (de_isi "list" k_list (by rfl) T.z_isinstance bt_isi (de_var 1 (pv 1)) (by rfl) T.z_list bt_list)) (dss_one (ds_if (dw_pt (dw_or (dt_not (dt_truth (de_isi "list" k_list (by rfl) T.z_isinstance bt_isi (de_var 0 (pv 0)) (by rfl) T.z_list bt_list))) (dw_or1 (dt_ne (un_of hr) (de_len (by rfl) T.z_len (de_var 0 (pv 0))) (de_len (by rfl) T.z_len (de_var 1 (pv 1))))))) (dss_one (ds_ret (de_bl))) (dss_nil))) (dss_one (ds_if (dt_truth (de_isi "tuple" k_tuple (by rfl) T.z_isinstance bt_isi (de_var 1 (pv 1)) (by rfl) T.z_tuple bt_tuple)) (dss_one (ds_if (dw_pt (dw_or (dt_not (dt_truth (de_isi "tuple" k_tuple (by rfl) T.z_isinstance bt_isi (de_var 0 (pv 0)) (by rfl) T.z_tuple bt_tuple))) (dw_or1 (dt_ne (un_of hr) (de_len (by rfl) T.z_len (de_var 0 (pv 0))) (de_len (by rfl) T.z_len (de_var 1 (pv 1))))))) (dss_one (ds_ret (de_bl))) (dss_nil))) (dss_one (ds_if (dt_isN (de_var 1 (pv 1))) (dss_one (ds_ret (de_isN (de_var 0 (pv 0))))) (dss_one (ds_if (dt_truth (de_isi "bool" k_bool (by rfl) T.z_isinstance bt_isi (de_var 1 (pv 1)) (by rfl) T.z_bool bt_bool)) (dss_one (ds_ret (de_and (de_isi "bool" k_bool (by rfl) T.z_isinstance bt_isi (de_var 0 (pv 0)) (by rfl) T.z_bool bt_bool) (de_one (de_eq (un_of hr) (de_var 0 (pv 0)) (de_var 1 (pv 1))))))) (dss_one (ds_if (dt_truth (de_isi "int" k_int (by rfl) T.z_isinstance bt_isi (de_var 1 (pv 1)) (by rfl) T.z_int bt_int)) (dss_one (ds_ret (de_and (de_isi "int" k_int (by rfl) T.z_isinstance bt_isi (de_var 0 (pv 0)) (by rfl) T.z_int bt_int) (de_and (de_not (de_isi "bool" k_bool (by rfl) T.z_isinstance bt_isi (de_var 0 (pv 0)) (by rfl) T.z_bool bt_bool)) (de_one (de_eq (un_of hr) (de_var 0 (pv 0)) (de_var 1 (pv 1)))))))) (dss_one (ds_ret (de_and (de_isi "str" k_str (by rfl) T.z_isinstance bt_isi (de_var 0 (pv 0)) (by rfl) T.z_str bt_str) (de_one (de_eq (un_of hr) (de_var 0 (pv 0)) (de_var 1 (pv 1)))))))))))))))) <|
    dss_cons (ds_for (passes_of rfl) rfl (di_rng (by rfl) T.z_range (de_len (by rfl) T.z_len (de_var 1 (pv 1)))) (dg_name 2 sc__law_same.nd rfl (.inl rfl) (.inl rfl)) (dss_one (ds_if (dt_not (dt_truth (de_call (HG) hr (by rfl) T.g__law_same T.f__law_same.kp T.b__law_same (takes_of rfl rfl rfl rfl) (da_cons (de_ix (de_var 0 (pv 0)) (de_var 2 (pv 2))) (da_cons (de_ix (de_var 1 (pv 1)) (de_var 2 (pv 2))) (da_nil)))))) (dss_one (ds_ret (de_bl))) (dss_nil)))) <|
    dss_one (ds_ret (de_bl))
theorem ok__law_quoted (T : Top w K mg) : FnOk P w K mg base (L2.CX P w) (0 + 1) T.a__law_quoted T.d__law_quoted ["text"] (spD K mg 1 F__law_quoted) :=
  fn_denT T.f__law_quoted sc__law_quoted rfl (by decide +kernel) (by decide) fun cdv A outer s H E hr =>
    dsst_cons (dst_ret (det_add (det_add (det_of (de_str [34])) (det_repl [10] [92, 110] (det_repl [34] [92, 34] (det_repl [92] [92, 92] (det_of (de_var 0 (pv 0))))))) (det_of (de_str [34])))) <|
    dsst_of dss_nil
theorem ok__law_row (T : Top w K mg) : FnOk P w K mg base (L2.CX P w) (1 + 1) T.a__law_row T.d__law_row ["words"] (spD K mg 1 F__law_row) :=
  fn_den T.f__law_row sc__law_row rfl fun cdv A outer s H E hr =>
    dss_cons (ds_set 1 sc__law_row.nd rfl (.inl rfl) (de_lst (da_nil))) <|
    dss_cons (ds_for (passes_of rfl) rfl (di_val (de_var 0 (pv 0))) (dg_name 2 sc__law_row.nd rfl (.inl rfl) (.inl rfl)) (dss_one (ds_if (dt_truth (de_isi "str" k_str (by rfl) T.z_isinstance bt_isi (de_var 2 (pv 2)) (by rfl) T.z_str bt_str)) (dss_one (ds_app 1 (pv 1) (de_var 2 (pv 2)))) (dss_one (ds_app 1 (pv 1) (de_call ((ok__law_quoted T).mono (by decide)) hr (by rfl) T.g__law_quoted T.f__law_quoted.kp T.b__law_quoted (takes_of rfl rfl rfl rfl) (da_cons (de_ix (de_var 2 (pv 2)) (de_int)) (da_nil)))))))) <|
    dss_one (ds_ret (de_join (de_str [32]) (de_var 1 (pv 1))))
theorem ok__law_words (T : Top w K mg) : FnOk P w K mg base (L2.CX P w) (0 + 1) T.a__law_words T.d__law_words ["row"] (spD K mg 1 F__law_words) :=
  fn_den T.f__law_words sc__law_words rfl fun cdv A outer s H E hr =>
    dss_cons (ds_if (dw_pt (dw_or (dt_eq (un_of hr) (de_var 0 (pv 0)) (de_str [])) (dw_or1 (dt_gt (de_len (by rfl) T.z_len (de_lc (own := [("sign", 1)]) rfl sc__law_words.nd (blkOk_by (by show blkC N__law_words (defScope st__law_words) _ _ = true; decide +kernel)) (by decide) (di_val (de_var 0 (pv 0))) (fun _ _ _ _ _ => dg_name 1 sc__law_words.nd rfl (.inl rfl) (.inr rfl)) (fun _ _ _ _ _ => dts_one (dw_pt (dw_or (dt_lt (de_var 1 (pv 1)) (de_str [32])) (dw_or1 (dt_gt (de_var 1 (pv 1)) (de_str [126])))))) (fun _ _ _ _ _ => de_var 1 (pv 1)))) (de_int))))) (dss_one (ds_ret (de_non))) (dss_nil)) <|
    dss_cons (ds_set 2 sc__law_words.nd rfl (.inl rfl) (de_lst (da_nil))) <|
    dss_cons (ds_set 3 sc__law_words.nd rfl (.inl rfl) (de_add (de_var 0 (pv 0)) (de_str [32]))) <|
    dss_cons (ds_while 100000 (passes_of rfl) (dt_ne (un_of hr) (de_var 3 (pv 3)) (de_str [])) (dss_one (ds_if (dt_eq (un_of hr) (de_ix (de_var 3 (pv 3)) (de_int)) (de_str [34])) (dss_cons (ds_set 4 sc__law_words.nd rfl (.inl rfl) (de_str [])) <|
    dss_cons (ds_set 5 sc__law_words.nd rfl (.inl rfl) (de_int)) <|
    dss_cons (ds_while 100000 (passes_of rfl) (dw_pt (dw_and (dt_lt (de_var 5 (pv 5)) (de_len (by rfl) T.z_len (de_var 3 (pv 3)))) (dw_and1 (dt_ne (un_of hr) (de_ix (de_var 3 (pv 3)) (de_var 5 (pv 5))) (de_str [34]))))) (dss_cons (ds_set 1 sc__law_words.nd rfl (.inl rfl) (de_ix (de_var 3 (pv 3)) (de_var 5 (pv 5)))) <|
    dss_cons (ds_if (dt_eq (un_of hr) (de_var 1 (pv 1)) (de_str [92])) (dss_cons (ds_if (dt_nin (de_slice (de_var 3 (pv 3)) (do_some (de_add (de_var 5 (pv 5)) (de_int))) (do_some (de_add (de_var 5 (pv 5)) (de_int)))) (de_lst (da_cons (de_str [92]) (da_cons (de_str [34]) (da_cons (de_str [110]) (da_nil)))))) (dss_one (ds_ret (de_non))) (dss_nil)) <|
    dss_cons (ds_set 1 sc__law_words.nd rfl (.inl rfl) (de_dix [([92], [92]), ([34], [34]), ([110], [10])] (un1_of hr) (pps_consC [92] [92] (pps_consC [34] [34] (pps_consC [110] [10] (pps_nil)))) rfl rfl (List.cons_ne_nil _ _) (by decide) (by decide) (by decide) (de_ix (de_var 3 (pv 3)) (de_add (de_var 5 (pv 5)) (de_int))))) <|
    dss_one (ds_set 5 sc__law_words.nd rfl (.inl rfl) (de_add (de_var 5 (pv 5)) (de_int)))) (dss_nil)) <|
    dss_cons (ds_set 4 sc__law_words.nd rfl (.inl rfl) (de_add (de_var 4 (pv 4)) (de_var 1 (pv 1)))) <|
    dss_one (ds_set 5 sc__law_words.nd rfl (.inl rfl) (de_add (de_var 5 (pv 5)) (de_int))))) <|
    dss_cons (ds_if (dt_ne (un_of hr) (de_slice (de_var 3 (pv 3)) (do_some (de_add (de_var 5 (pv 5)) (de_int))) (do_some (de_add (de_var 5 (pv 5)) (de_int)))) (de_str [32])) (dss_one (ds_ret (de_non))) (dss_nil)) <|
    dss_cons (ds_app 2 (pv 2) (de_tup (da_cons (de_str [116, 101, 120, 116]) (da_cons (de_var 4 (pv 4)) (da_nil))))) <|
    dss_one (ds_set 3 sc__law_words.nd rfl (.inl rfl) (de_slice (de_var 3 (pv 3)) (do_some (de_add (de_var 5 (pv 5)) (de_int))) (do_none)))) (dss_cons (ds_set 5 sc__law_words.nd rfl (.inl rfl) (de_index (de_var 3 (pv 3)) (de_str [32]))) <|
    dss_cons (ds_if (dw_pt (dw_or (dt_eq (un_of hr) (de_var 5 (pv 5)) (de_int)) (dw_or1 (dt_in (de_str [34]) (de_slice (de_var 3 (pv 3)) (do_some (de_int)) (do_some (de_var 5 (pv 5)))))))) (dss_one (ds_ret (de_non))) (dss_nil)) <|
    dss_cons (ds_app 2 (pv 2) (de_slice (de_var 3 (pv 3)) (do_some (de_int)) (do_some (de_var 5 (pv 5))))) <|
    dss_one (ds_set 3 sc__law_words.nd rfl (.inl rfl) (de_slice (de_var 3 (pv 3)) (do_some (de_add (de_var 5 (pv 5)) (de_int))) (do_none))))))) <|
    dss_one (ds_retV 2 (pv 2))
theorem ok__law_signs (T : Top w K mg) : FnOk P w K mg base (L2.CX P w) (1 + 1) T.a__law_signs T.d__law_signs ["draw", "count"] (spD K mg 2 F__law_signs) :=
  fn_den T.f__law_signs sc__law_signs rfl fun cdv A outer s H E hr =>
    dss_cons (ds_set 2 sc__law_signs.nd rfl (.inr rfl) (de_str [32, 33, 34, 35, 36, 38, 39, 40, 41, 42, 43, 44, 45, 46, 47, 48, 49, 50, 51, 52, 53, 54, 55, 56, 57, 58, 59, 60, 61, 62, 63, 64, 65, 66, 67, 88, 89, 90, 91, 92, 93, 94, 95, 97, 98, 99, 100, 101, 102, 103, 104, 105, 106, 107, 108, 109, 110, 111, 112, 113, 114, 115, 116, 117, 118, 119, 120, 121, 122, 123, 124, 125, 126, 10])) <|
    dss_one (ds_ret (de_join (de_str []) (de_lc (own := [("number", 3)]) rfl sc__law_signs.nd (blkOk_by (by show blkC N__law_signs (defScope st__law_signs) _ _ = true; decide +kernel)) (by decide) (di_val (de_call ((ok__law_numbers T).mono (by decide)) hr (by rfl) T.g__law_numbers T.f__law_numbers.kp T.b__law_numbers (takes_of rfl rfl rfl rfl) (da_cons (de_var 0 (pv 0)) (da_cons (de_var 1 (pv 1)) (da_cons (de_len (by rfl) T.z_len (de_var 2 (pv 2))) (da_nil)))))) (fun _ _ _ _ _ => dg_name 3 sc__law_signs.nd rfl (.inl rfl) (.inr rfl)) (fun _ _ _ _ _ => dts_nil) (fun _ _ _ _ _ => de_ix (de_var 2 (pv 2)) (de_var 3 (pv 3))))))
theorem ok__law_bent (T : Top w K mg) : FnOk P w K mg base (L2.CX P w) (0 + 1) T.a__law_bent T.d__law_bent ["text", "draws", "at"] (spD K mg 3 F__law_bent) :=
  fn_den T.f__law_bent sc__law_bent rfl fun cdv A outer s H E hr =>
    dss_cons (ds_set 3 sc__law_bent.nd rfl (.inl rfl) (de_str [48, 49, 50, 51, 52, 53, 54, 55, 56, 57, 32, 10, 44, 47, 34, 92, 97, 98, 100, 110, 116, 64, 42, 124, 126])) <|
    dss_cons (ds_set 4 sc__law_bent.nd rfl (.inl rfl) (de_mod (de_ix (de_var 1 (pv 1)) (de_var 2 (pv 2))) (de_add (de_len (by rfl) T.z_len (de_var 0 (pv 0))) (de_int)))) <|
    dss_cons (ds_set 5 sc__law_bent.nd rfl (.inl rfl) (de_ix (de_var 3 (pv 3)) (de_mod (de_ix (de_var 1 (pv 1)) (de_add (de_var 2 (pv 2)) (de_int))) (de_len (by rfl) T.z_len (de_var 3 (pv 3)))))) <|
    dss_cons (ds_set 6 sc__law_bent.nd rfl (.inl rfl) (de_mod (de_ix (de_var 1 (pv 1)) (de_add (de_var 2 (pv 2)) (de_int))) (de_int))) <|
    dss_cons (ds_if (dt_eq (un_of hr) (de_var 6 (pv 6)) (de_int)) (dss_one (ds_ret (de_add (de_slice (de_var 0 (pv 0)) (do_some (de_int)) (do_some (de_var 4 (pv 4)))) (de_slice (de_var 0 (pv 0)) (do_some (de_add (de_var 4 (pv 4)) (de_int))) (do_none))))) (dss_nil)) <|
    dss_cons (ds_if (dt_eq (un_of hr) (de_var 6 (pv 6)) (de_int)) (dss_one (ds_ret (de_add (de_add (de_slice (de_var 0 (pv 0)) (do_some (de_int)) (do_some (de_var 4 (pv 4)))) (de_var 5 (pv 5))) (de_slice (de_var 0 (pv 0)) (do_some (de_add (de_var 4 (pv 4)) (de_int))) (do_none))))) (dss_nil)) <|
    dss_cons (ds_if (dt_eq (un_of hr) (de_var 6 (pv 6)) (de_int)) (dss_one (ds_ret (de_slice (de_var 0 (pv 0)) (do_some (de_int)) (do_some (de_var 4 (pv 4)))))) (dss_nil)) <|
    dss_cons (ds_if (dt_eq (un_of hr) (de_var 6 (pv 6)) (de_int)) (dss_one (ds_ret (de_add (de_var 0 (pv 0)) (de_var 5 (pv 5))))) (dss_nil)) <|
    dss_cons (ds_if (dt_eq (un_of hr) (de_var 6 (pv 6)) (de_int)) (dss_one (ds_ret (de_add (de_var 5 (pv 5)) (de_var 0 (pv 0))))) (dss_nil)) <|
    dss_cons (ds_if (dt_eq (un_of hr) (de_var 6 (pv 6)) (de_int)) (dss_one (ds_ret (de_add (de_slice (de_var 0 (pv 0)) (do_some (de_int)) (do_some (de_var 4 (pv 4)))) (de_slice (de_var 0 (pv 0)) (do_some (de_mod (de_ix (de_var 1 (pv 1)) (de_add (de_var 2 (pv 2)) (de_int))) (de_add (de_len (by rfl) T.z_len (de_var 0 (pv 0))) (de_int)))) (do_none))))) (dss_nil)) <|
    dss_one (ds_ret (de_add (de_add (de_slice (de_var 0 (pv 0)) (do_some (de_int)) (do_some (de_var 4 (pv 4)))) (de_var 5 (pv 5))) (de_slice (de_var 0 (pv 0)) (do_some (de_var 4 (pv 4))) (do_none))))
theorem ok__law_asked (T : Top w K mg) : FnOk P w K mg base (L2.CX P w) (3 + 1) T.a__law_asked T.d__law_asked ["row"] (spD K mg 1 F__law_asked) :=
  fn_den T.f__law_asked sc__law_asked rfl fun cdv A outer s H E hr =>
    dss_one (ds_tryC 1 rfl rfl sc__law_asked.nd rfl rfl T.k_InvalidText (by rfl) (by decide) T.e_InvalidText (takes_of rfl rfl rfl rfl) (fun W' pn xe tkW _ => dss_one (ds_ret (de_call ((ok_words_of T).mono (by decide)) hr (by rfl) T.g_words_of T.f_words_of.kp T.b_words_of tkW (da_cons (de_var 0 (pv 0)) (da_nil))))) (fun a oe pn h1 h2 h3 => suite_isi (z := [114, 101, 102, 117, 115, 101, 100]) T.i_InvalidText List.mem_cons_self h1 h2 h3 T.y_InvalidText T.n_InvalidText (pv 1) (pv 1) (by rfl) T.m_BuildError (by rfl) T.m_InvalidTree (by decide) (by decide) (by rfl) T.z_isinstance (by rfl) T.z_int (by decide +kernel) rfl rfl rfl rfl))
theorem ok__law_due (T : Top w K mg) : FnOk P w K mg base (L2.CX P w) (1 + 1) T.a__law_due T.d__law_due ["row"] (spD K mg 1 F__law_due) :=
  fn_den T.f__law_due sc__law_due rfl fun cdv A outer s H E hr =>
    dss_cons (ds_set 1 sc__law_due.nd rfl (.inl rfl) (de_call ((ok__law_words T).mono (by decide)) hr (by rfl) T.g__law_words T.f__law_words.kp T.b__law_words (takes_of rfl rfl rfl rfl) (da_cons (de_var 0 (pv 0)) (da_nil)))) <|
    dss_cons (ds_if (dt_isN (de_var 1 (pv 1))) (dss_one (ds_ret (de_str [114, 101, 102, 117, 115, 101, 100]))) (dss_nil)) <|
    dss_one (ds_retV 1 (pv 1))
theorem ok_law (T : Top w K mg) : FnOk P w K mg base (L2.CX P w) (4 + 1) T.a_law T.d_law ["script"] (spD K mg 1 F_law) :=
  fn_den T.f_law sc_law rfl fun cdv A outer s H E hr =>
    dss_cons (ds_set 1 sc_law.nd rfl (.inl rfl) (de_call ((ok__law_numbers T).mono (by decide)) hr (by rfl) T.g__law_numbers T.f__law_numbers.kp T.b__law_numbers (takes_of rfl rfl rfl rfl) (da_cons (de_call ((ok__law_cell T).mono (by decide)) hr (by rfl) T.g__law_cell T.f__law_cell.kp T.b__law_cell (takes_of rfl rfl rfl rfl) (da_cons (de_var 0 (pv 0)) (da_cons (de_int) (da_nil)))) (da_cons (de_int) (da_cons (de_int) (da_nil)))))) <|
    dss_cons (ds_for (passes_of rfl) rfl (di_rng (by rfl) T.z_range (de_int)) (dg_name 2 sc_law.nd rfl (.inl rfl) (.inl rfl)) (dss_cons (ds_set 3 sc_law.nd rfl (.inl rfl) (de_lst (da_nil))) <|
    dss_cons (ds_for (passes_of rfl) rfl (di_rng (by rfl) T.z_range (de_add (de_int) (de_mod (de_ix (de_var 1 (pv 1)) (de_var 2 (pv 2))) (de_int)))) (dg_name 4 sc_law.nd rfl (.inl rfl) (.inl rfl)) (dss_cons (ds_set 5 sc_law.nd rfl (.inl rfl) (de_call ((ok__law_signs T).mono (by decide)) hr (by rfl) T.g__law_signs T.f__law_signs.kp T.b__law_signs (takes_of rfl rfl rfl rfl) (da_cons (de_ix (de_var 1 (pv 1)) (de_add (de_add (de_int) (de_mulI (de_int) (de_var 2 (pv 2)))) (de_var 4 (pv 4)))) (da_cons (de_mod (de_ix (de_var 1 (pv 1)) (de_add (de_int) (de_var 2 (pv 2)))) (de_int)) (da_nil))))) <|
    dss_cons (ds_set 6 sc_law.nd rfl (.inl rfl) (de_join (de_str []) (de_lc (own := [("sign", 7)]) rfl sc_law.nd (blkOk_by (by show blkC N_law (defScope st_law) _ _ = true; decide +kernel)) (by decide) (di_val (de_var 5 (pv 5))) (fun _ _ _ _ _ => dg_name 7 sc_law.nd rfl (.inl rfl) (.inr rfl)) (fun _ _ _ _ _ => dts_one (dw_pt (dw_and (dt_ne (un_of hr) (de_var 7 (pv 7)) (de_str [32])) (dw_and (dt_ne (un_of hr) (de_var 7 (pv 7)) (de_str [10])) (dw_and1 (dt_ne (un_of hr) (de_var 7 (pv 7)) (de_str [34]))))))) (fun _ _ _ _ _ => de_var 7 (pv 7))))) <|
    dss_one (ds_app 3 (pv 3) (de_ix (de_lst (da_cons (de_tup (da_cons (de_str [116, 101, 120, 116]) (da_cons (de_var 5 (pv 5)) (da_nil)))) (da_cons (de_add (de_var 6 (pv 6)) (de_str [97])) (da_cons (de_tup (da_cons (de_str [116, 101, 120, 116]) (da_cons (de_str []) (da_nil)))) (da_cons (de_add (de_str [45]) (de_strc (by rfl) T.z_str (de_var 4 (pv 4)))) (da_nil)))))) (de_mod (de_ix (de_var 1 (pv 1)) (de_add (de_add (de_int) (de_mulI (de_int) (de_var 2 (pv 2)))) (de_var 4 (pv 4)))) (de_int)))))) <|
    dss_cons (ds_set 8 sc_law.nd rfl (.inl rfl) (de_call ((ok_row_of T).mono (by decide)) hr (by rfl) T.g_row_of T.f_row_of.kp T.b_row_of (takes_of rfl rfl rfl rfl) (da_cons (de_var 3 (pv 3)) (da_nil)))) <|
    dss_cons (ds_if (dw_pt (dw_or (dt_not (dt_truth (de_call ((ok__law_same T 3).mono (by decide)) hr (by rfl) T.g__law_same T.f__law_same.kp T.b__law_same (takes_of rfl rfl rfl rfl) (da_cons (de_var 8 (pv 8)) (da_cons (de_call ((ok__law_row T).mono (by decide)) hr (by rfl) T.g__law_row T.f__law_row.kp T.b__law_row (takes_of rfl rfl rfl rfl) (da_cons (de_var 3 (pv 3)) (da_nil))) (da_nil)))))) (dw_or1 (dt_not (dt_truth (de_call ((ok__law_same T 3).mono (by decide)) hr (by rfl) T.g__law_same T.f__law_same.kp T.b__law_same (takes_of rfl rfl rfl rfl) (da_cons (de_call ((ok_words_of T).mono (by decide)) hr (by rfl) T.g_words_of T.f_words_of.kp T.b_words_of (takes_of rfl rfl rfl rfl) (da_cons (de_var 8 (pv 8)) (da_nil))) (da_cons (de_var 3 (pv 3)) (da_nil))))))))) (dss_one (ds_ret (de_bl))) (dss_nil)) <|
    dss_cons (ds_set 9 sc_law.nd rfl (.inl rfl) (de_call ((ok_words_of T).mono (by decide)) hr (by rfl) T.g_words_of T.f_words_of.kp T.b_words_of (takes_of rfl rfl rfl rfl) (da_cons (de_var 8 (pv 8)) (da_nil)))) <|
    dss_cons (ds_app 9 (pv 9) (de_str [99, 104, 97, 110, 103, 101, 100])) <|
    dss_cons (ds_set 10 sc_law.nd rfl (.inl rfl) (de_lst (da_cons (de_var 8 (pv 8)) (da_consC [32] (de_var 8 (pv 8)) (dat_cons (det_of (de_add (de_str [32]) (de_var 8 (pv 8)))) (dat_cons (det_repl [32] [32, 32] (det_of (de_var 8 (pv 8)))) (dat_cons (det_of (de_add (de_var 8 (pv 8)) (de_str [34]))) (dat_cons (det_of (de_add (de_str [34]) (de_var 8 (pv 8)))) (dat_cons (det_of (de_add (de_var 8 (pv 8)) (de_str [92]))) (dat_cons (det_of (de_add (de_var 8 (pv 8)) (de_str [32, 34, 92, 110, 34]))) (dat_cons (det_of (de_add (de_var 8 (pv 8)) (de_str [32, 34, 92, 116, 34]))) (dat_nil)))))))))))) <|
    dss_one (ds_for (passes_of rfl) rfl (di_val (de_add (de_var 10 (pv 10)) (de_lst (da_cons (de_call ((ok__law_bent T).mono (by decide)) hr (by rfl) T.g__law_bent T.f__law_bent.kp T.b__law_bent (takes_of rfl rfl rfl rfl) (da_cons (de_var 8 (pv 8)) (da_cons (de_var 1 (pv 1)) (da_cons (de_add (de_int) (de_mulI (de_int) (de_var 2 (pv 2)))) (da_nil))))) (da_cons (de_call ((ok__law_bent T).mono (by decide)) hr (by rfl) T.g__law_bent T.f__law_bent.kp T.b__law_bent (takes_of rfl rfl rfl rfl) (da_cons (de_var 8 (pv 8)) (da_cons (de_var 1 (pv 1)) (da_cons (de_add (de_int) (de_var 2 (pv 2))) (da_nil))))) (da_nil)))))) (dg_name 11 sc_law.nd rfl (.inl rfl) (.inl rfl)) (dss_one (ds_if (dt_not (dt_truth (de_call ((ok__law_same T 3).mono (by decide)) hr (by rfl) T.g__law_same T.f__law_same.kp T.b__law_same (takes_of rfl rfl rfl rfl) (da_cons (de_call ((ok__law_asked T).mono (by decide)) hr (by rfl) T.g__law_asked T.f__law_asked.kp T.b__law_asked (takes_of rfl rfl rfl rfl) (da_cons (de_var 11 (pv 11)) (da_nil))) (da_cons (de_call ((ok__law_due T).mono (by decide)) hr (by rfl) T.g__law_due T.f__law_due.kp T.b__law_due (takes_of rfl rfl rfl rfl) (da_cons (de_var 11 (pv 11)) (da_nil))) (da_nil)))))) (dss_one (ds_ret (de_bl))) (dss_nil)))))) <|
    dss_cons (ds_for (passes_of rfl) rfl (di_val (de_lst (da_cons (de_str []) (da_cons (de_str [32]) (da_cons (de_str [97]) (da_cons (de_str [34, 34]) (da_cons (de_str [34, 34, 32, 97]) (da_cons (de_str [34, 97, 34, 98]) (da_cons (de_str [97, 34, 98, 34]) (da_cons (de_str [34]) (da_cons (de_str [34, 92, 34]) (da_cons (de_str [34, 92, 92, 34]) (da_cons (de_str [34, 92, 34, 34]) (da_cons (de_str [97, 32, 32, 98]) (da_cons (de_str [34, 97, 32, 98, 34, 32, 99]) (da_cons (de_str [97, 10, 98]) (da_cons (de_str [34, 97, 10, 98, 34]) (da_cons (de_str [34, 92, 110, 34]) (da_nil))))))))))))))))))) (dg_name 8 sc_law.nd rfl (.inl rfl) (.inl rfl)) (dss_one (ds_if (dt_not (dt_truth (de_call ((ok__law_same T 3).mono (by decide)) hr (by rfl) T.g__law_same T.f__law_same.kp T.b__law_same (takes_of rfl rfl rfl rfl) (da_cons (de_call ((ok__law_asked T).mono (by decide)) hr (by rfl) T.g__law_asked T.f__law_asked.kp T.b__law_asked (takes_of rfl rfl rfl rfl) (da_cons (de_var 8 (pv 8)) (da_nil))) (da_cons (de_call ((ok__law_due T).mono (by decide)) hr (by rfl) T.g__law_due T.f__law_due.kp T.b__law_due (takes_of rfl rfl rfl rfl) (da_cons (de_var 8 (pv 8)) (da_nil))) (da_nil)))))) (dss_one (ds_ret (de_bl))) (dss_nil)))) <|
    dss_one (ds_ret (de_call ((ok__law_same T 3).mono (by decide)) hr (by rfl) T.g__law_same T.f__law_same.kp T.b__law_same (takes_of rfl rfl rfl rfl) (da_cons (de_call ((ok_words_of T).mono (by decide)) hr (by rfl) T.g_words_of T.f_words_of.kp T.b_words_of (takes_of rfl rfl rfl rfl) (da_cons (de_str [97, 32, 34, 98, 32, 99, 34, 32, 34, 92, 34, 92, 92, 92, 110, 34]) (da_nil))) (da_cons (de_lst (da_cons (de_str [97]) (da_cons (de_tup (da_cons (de_str [116, 101, 120, 116]) (da_cons (de_str [98, 32, 99]) (da_nil)))) (da_cons (de_tup (da_cons (de_str [116, 101, 120, 116]) (da_cons (de_str [34, 92, 10]) (da_nil)))) (da_nil))))) (da_nil)))))
end
end PL
set_option Elab.async false
set_option linter.all false
set_option maxRecDepth 100000
set_option maxHeartbeats 4000000
/-! Ma55: the defs that k55 shares with k62. -/
namespace PL
open PySem PySem.Spec L2
section
variable {G : FD}
theorem same_str (x : List Nat) : fnD 3 2 (B__law_same G) [.str x, .str x] = .ok (.cl, .bl true) := by
  let ρ : Ro := [some (false, .str x), some (false, .str x), none]
  refine fn_ok (ρ0 := ρ) (s := .rt (.cl, .bl true)) rfl rfl ?_ rfl
  have v0 : eVar 0 ρ = .ok (.cl, .str x) := rfl
  have v1 : eVar 1 ρ = .ok (.cl, .str x) := rfl
  unfold B__law_same
  refine sSeq_r (sIf_f (isi_ok v1 rfl) (sIf_f (isi_ok v1 rfl) (sIf_f (isnT v1 rfl) (sIf_f (isi_ok v1 rfl) (sIf_f (isi_ok v1 rfl) (sRet_ok (eAnd_t (isiE v0 rfl) ?_)))))))
  refine op2_ok v0 v1 ?_
  rw [gEq_s, beq_self_eq_true]
theorem same_int (x : Int) : fnD 3 2 (B__law_same G) [.int x, .int x] = .ok (.cl, .bl true) := by
  let ρ : Ro := [some (false, .int x), some (false, .int x), none]
  refine fn_ok (ρ0 := ρ) (s := .rt (.cl, .bl true)) rfl rfl ?_ rfl
  have v0 : eVar 0 ρ = .ok (.cl, .int x) := rfl
  have v1 : eVar 1 ρ = .ok (.cl, .int x) := rfl
  unfold B__law_same
  refine sSeq_r (sIf_f (isi_ok v1 rfl) (sIf_f (isi_ok v1 rfl) (sIf_f (isnT v1 rfl) (sIf_f (isi_ok v1 rfl) (sIf_t (isi_ok v1 rfl) (sRet_ok (eAnd_t (isiE v0 rfl) (eAnd_t (eNot_b (isiE v0 rfl)) ?_))))))))
  refine op2_ok v0 v1 ?_
  rw [gEq_i, beq_self_eq_true]
theorem same_loop (xs : List D) (h : ∀ d ∈ xs, G [d, d] = .ok (.cl, .bl true)) : ∀ (m i : Nat) (a : Sl), i + m = xs.length →
    ∃ b, forL (gNm 2) (sIf (tNotF (tVal (eCall (G) 2 (aCons (op2 gIx (eVar 0) (eVar 2)) (aCons (op2 gIx (eVar 1) (eVar 2)) (aNil)))))) (sRet (eC (.bl false))) (sSkip)) ((List.range' i m).map fun k : Nat => D.int k) [some (false, .lst xs), some (false, .lst xs), a]
      = .nx [some (false, .lst xs), some (false, .lst xs), b]
  | 0, i, a, _ => ⟨a, rfl⟩
  | m + 1, i, a, hi => by
    have hl : i < xs.length := by omega
    obtain ⟨b, hb⟩ := same_loop xs h m (i + 1) (some (false, .int i)) (by omega)
    refine ⟨b, ?_⟩
    rw [List.range'_succ, List.map_cons]
    let ρ : Ro := [some (false, .lst xs), some (false, .lst xs), some (false, .int i)]
    have x0 : op2 gIx (eVar 0) (eVar 2) ρ = .ok (.cl, xs[i]) := op2_ok (k1 := .cl) (x := .lst xs) (k2 := .cl) (y := .int i) rfl rfl (gIx_l (List.getElem?_eq_getElem hl))
    have x1 : op2 gIx (eVar 1) (eVar 2) ρ = .ok (.cl, xs[i]) := op2_ok (k1 := .cl) (x := .lst xs) (k2 := .cl) (y := .int i) rfl rfl (gIx_l (List.getElem?_eq_getElem hl))
    refine forL_n (ρ1 := ρ) (ρ2 := ρ) rfl (sIf_f (tNot_ok (b := true) (tVal_b (eCall_ok (aCons_ok x0 (aCons_ok x1 rfl)) rfl rfl (h _ (List.getElem_mem hl)) rfl))) rfl) hb
theorem same_lst (xs : List D) (hx : xs.length < 2 ^ 60) (h : ∀ d ∈ xs, G [d, d] = .ok (.cl, .bl true)) : fnD 3 2 (B__law_same G) [.lst xs, .lst xs] = .ok (.cl, .bl true) := by
  let ρ : Ro := [some (false, .lst xs), some (false, .lst xs), none]
  refine fn_ok (ρ0 := ρ) (s := .rt (.cl, .bl true)) rfl rfl ?_ rfl
  have v0 : eVar 0 ρ = .ok (.cl, .lst xs) := rfl
  have v1 : eVar 1 ρ = .ok (.cl, .lst xs) := rfl
  have l0 : op1 gLen (eVar 0) ρ = .ok (.cl, .int (xs.length : Nat)) := op1_ok v0 rfl
  have l1 : op1 gLen (eVar 1) ρ = .ok (.cl, .int (xs.length : Nat)) := op1_ok v1 rfl
  have ne : t2 gNe (op1 gLen (eVar 0)) (op1 gLen (eVar 1)) ρ = .ok false := by
    have := t2_ok (g := gNe) l0 l1 gNe_i
    rw [beq_self_eq_true] at this
    exact this
  obtain ⟨b, hb⟩ := same_loop xs h xs.length 0 none (by omega)
  unfold B__law_same
  refine sSeq_n (ρ1 := ρ) (sIf_t (isi_ok v1 rfl) (sIf_f (tOr_f (tNot_ok (b := true) (isi_ok v0 rfl)) ne) rfl)) ?_
  exact sSeq_n (sFor_ok (iRng_ok l1 hx) hb) rfl
end
theorem e_cell (ns : List Int) : ∃ z : Int, F__law_cell [.rol (ns.map D.int), .int 0] = .ok (.cl, .int z) := by
  let ρ : Ro := [some (false, .rol (ns.map D.int)), some (false, .int 0)]
  have l1 : op1 gLen (eVar 0) ρ = .ok (.cl, .int ((ns.map D.int).length : Nat)) := rfl
  rw [List.length_map] at l1
  have t : t2 gLt (eVar 1) (op1 gLen (eVar 0)) ρ = .ok (decide ((0 : Int) < (ns.length : Int))) := t2_ok (k1 := .cl) (x := .int 0) rfl l1 rfl
  cases ns with
  | nil =>
    refine ⟨0, fn_ok (ρ0 := ρ) (s := .rt (.cl, .int 0)) rfl rfl ?_ rfl⟩
    exact sSeq_n (sIf_f t rfl) rfl
  | cons z r =>
    refine ⟨z, fn_ok (ρ0 := ρ) (s := .rt (.cl, .int z)) rfl rfl ?_ rfl⟩
    have t : t2 gLt (eVar 1) (op1 gLen (eVar 0)) ρ = .ok true := by
      rw [t, decide_eq_true]
      rw [List.length_cons]; omega
    exact sSeq_r (sIf_t t (sRet_ok (op1_ok (op2_ok (k1 := .cl) (x := .rol ((z :: r).map D.int)) (k2 := .cl) (y := .int 0) rfl rfl (gIx_r (i := 0) rfl)) rfl)))
theorem num_loop1 (count limit : Nat) (hl : 0 < limit ∧ limit < 1073741824) : ∀ (m i : Nat) (cell : Int) (fs : List Nat) (a b : Sl), fs.length + m ≤ 16000000 → Bel limit fs →
    ∃ (ns : List Nat) (cell' : Int) (a' : Sl), forL (gNm 4) (sSeq (sApp 3 (op2 gMod (op1 gInt (eVar 0)) (eVar 2))) (sSet 0 (op2 gFdiv (op1 gInt (eVar 0)) (eVar 2)))) ((List.range' i m).map fun k : Nat => D.int k)
        [some (false, .int cell), some (false, .int count), some (false, .int limit), some (true, .lst ((fs.map fun n : Nat => (n : Int)).map D.int)), a, b]
      = .nx [some (false, .int cell'), some (false, .int count), some (false, .int limit), some (true, .lst ((ns.map fun n : Nat => (n : Int)).map D.int)), a', b] ∧ ns.length = fs.length + m ∧ Bel limit ns
  | 0, i, cell, fs, a, b, hm, hb => ⟨fs, cell, a, rfl, rfl, hb⟩
  | m + 1, i, cell, fs, a, b, hm, hb => by
    have e0 : 0 ≤ cell % (limit : Int) := Int.emod_nonneg _ (by omega)
    have e1 : cell % (limit : Int) < limit := Int.emod_lt_of_pos _ (by omega)
    obtain ⟨n, hn⟩ := Int.eq_ofNat_of_zero_le e0
    obtain ⟨ns, cell', a', h1, h2, h3⟩ := num_loop1 count limit hl m (i + 1) (cell / limit) (fs ++ [n]) (some (false, .int i)) b (by rw [List.length_append, List.length_singleton]; omega) (fun x hx => (List.mem_append.mp hx).elim (hb x) fun z => by rw [List.mem_singleton.mp z]; omega)
    refine ⟨ns, cell', a', ?_, by rw [h2, List.length_append, List.length_singleton]; omega, h3⟩
    rw [List.range'_succ, List.map_cons]
    let ρ1 : Ro := [some (false, .int cell), some (false, .int count), some (false, .int limit), some (true, .lst ((fs.map fun n : Nat => (n : Int)).map D.int)), some (false, .int i), b]
    let ρ2 : Ro := [some (false, .int cell), some (false, .int count), some (false, .int limit), some (true, .lst (((fs ++ [n]).map fun n : Nat => (n : Int)).map D.int)), some (false, .int i), b]
    have c0 : op1 gInt (eVar 0) ρ1 = .ok (.cl, .int cell) := rfl
    have c0' : op1 gInt (eVar 0) ρ2 = .ok (.cl, .int cell) := rfl
    have c2 : eVar 2 ρ1 = .ok (.cl, .int limit) := rfl
    have c2' : eVar 2 ρ2 = .ok (.cl, .int limit) := rfl
    refine forL_n (ρ1 := ρ1) (ρ2 := _) rfl (sSeq_n (ρ1 := ρ2) ?_ (sSet_c (op2_ok c0' c2' (gFdiv_i (by omega))))) h1
    rw [sApp_ok (ds := (fs.map fun n : Nat => (n : Int)).map D.int) (e := (.cl, .int n)) rfl (op2_ok c0 c2 (by rw [gMod_i (by omega), hn])) rfl (by rw [List.length_map, List.length_map]; omega)]
    show SRes.nx [some (false, .int cell), some (false, .int count), some (false, .int limit), some (true, .lst ((fs.map fun n : Nat => (n : Int)).map D.int ++ [D.int n])), some (false, .int i), b] = SRes.nx ρ2
    show _ = SRes.nx [some (false, .int cell), some (false, .int count), some (false, .int limit), some (true, .lst (((fs ++ [n]).map fun n : Nat => (n : Int)).map D.int)), some (false, .int i), b]
    rw [List.map_append, List.map_append]
    rfl
def nbody : SF := (sSeq (sSet 5 (op2 gMod (op1 gInt (op2 gAdd (op2 gAdd (op2 gMulI (eVar 0) (eC (.int 48271))) (op2 gMulI (eVar 4) (eC (.int 69621)))) (eC (.int 7)))) (eC (.int 2147483647)))) <|
    sSeq (sSet 5 (op2 gMod (op1 gInt (op2 gAdd (op2 gAdd (op2 gAdd (op2 gMulI (eVar 5) (eVar 5)) (op2 gMulI (eVar 5) (eC (.int 40692)))) (op2 gMulI (eVar 4) (eC (.int 16807)))) (eC (.int 11)))) (eC (.int 2147483399)))) <|
    sApp 3 (op2 gMod (op1 gInt (op2 gFdiv (eVar 5) (eC (.int 32)))) (eVar 2)))
theorem num_turn (count limit i : Nat) (hl : 0 < limit ∧ limit < 1073741824) (cell : Int) (fs : List Nat) (b : Sl) (hm : fs.length < 16000000) :
    ∃ (n : Nat) (m2 : Int), n < limit ∧ nbody [some (false, .int cell), some (false, .int count), some (false, .int limit), some (true, .lst ((fs.map fun n : Nat => (n : Int)).map D.int)), some (false, .int i), b]
      = .nx [some (false, .int cell), some (false, .int count), some (false, .int limit), some (true, .lst (((fs ++ [n]).map fun n : Nat => (n : Int)).map D.int)), some (false, .int i), some (false, .int m2)] := by
  let m1 : Int := (cell * 48271 + (i : Int) * 69621 + 7) % 2147483647
  have hm1 : 0 ≤ m1 ∧ m1 < 2147483647 := ⟨Int.emod_nonneg _ (by decide), Int.emod_lt_of_pos _ (by decide)⟩
  let m2 : Int := (m1 * m1 + m1 * 40692 + (i : Int) * 16807 + 11) % 2147483399
  have e0 : 0 ≤ m2 / 32 % (limit : Int) := Int.emod_nonneg _ (by omega)
  have e1 : m2 / 32 % (limit : Int) < limit := Int.emod_lt_of_pos _ (by omega)
  obtain ⟨n, hn⟩ := Int.eq_ofNat_of_zero_le e0
  refine ⟨n, m2, by omega, ?_⟩
  let L : D := .lst ((fs.map fun n : Nat => (n : Int)).map D.int)
  let ρ1 : Ro := [some (false, .int cell), some (false, .int count), some (false, .int limit), some (true, L), some (false, .int i), b]
  let ρ2 : Ro := [some (false, .int cell), some (false, .int count), some (false, .int limit), some (true, L), some (false, .int i), some (false, .int m1)]
  let ρ3 : Ro := [some (false, .int cell), some (false, .int count), some (false, .int limit), some (true, L), some (false, .int i), some (false, .int m2)]
  have k : ∀ (z : Int) (ρ : Ro), eC (.int z) ρ = .ok (.cl, .int z) := fun _ _ => rfl
  have b0 : eVar 0 ρ1 = .ok (.cl, .int cell) := rfl
  have b4 : eVar 4 ρ1 = .ok (.cl, .int i) := rfl
  have c5 : eVar 5 ρ2 = .ok (.cl, .int m1) := rfl
  have c4 : eVar 4 ρ2 = .ok (.cl, .int i) := rfl
  have d5 : eVar 5 ρ3 = .ok (.cl, .int m2) := rfl
  have d2 : eVar 2 ρ3 = .ok (.cl, .int limit) := rfl
  have x1 := op2_ok (g := gMulI) b0 (k 48271 ρ1) (gMul_i (by decide))
  have x2 := op2_ok (g := gMulI) b4 (k 69621 ρ1) (gMul_i (by decide))
  have x3 := op2_ok (g := gAdd) (op2_ok (g := gAdd) x1 x2 gAdd_i) (k 7 ρ1) gAdd_i
  have x4 : op2 gMod _ _ ρ1 = .ok (.cl, .int m1) := op2_ok (op1_ok (g := gInt) x3 rfl) (k 2147483647 ρ1) (gMod_i (by decide))
  have y1 := op2_ok (g := gMulI) c5 c5 (gMul_i (by omega))
  have y2 := op2_ok (g := gMulI) c5 (k 40692 ρ2) (gMul_i (by decide))
  have y3 := op2_ok (g := gMulI) c4 (k 16807 ρ2) (gMul_i (by decide))
  have y4 := op2_ok (g := gAdd) (op2_ok (g := gAdd) (op2_ok (g := gAdd) y1 y2 gAdd_i) y3 gAdd_i) (k 11 ρ2) gAdd_i
  have y5 : op2 gMod _ _ ρ2 = .ok (.cl, .int m2) := op2_ok (op1_ok (g := gInt) y4 rfl) (k 2147483399 ρ2) (gMod_i (by decide))
  have z1 := op2_ok (g := gFdiv) d5 (k 32 ρ3) (gFdiv_i (by decide))
  have z2 : op2 gMod _ _ ρ3 = .ok (.cl, .int n) := op2_ok (op1_ok (g := gInt) z1 rfl) d2 (by rw [gMod_i (by omega), hn])
  unfold nbody
  refine sSeq_n (ρ1 := ρ2) (sSet_c x4) (sSeq_n (ρ1 := ρ3) (sSet_c y5) ?_)
  rw [sApp_ok (ds := (fs.map fun n : Nat => (n : Int)).map D.int) (e := (.cl, .int n)) rfl z2 rfl (by rw [List.length_map, List.length_map]; omega)]
  show SRes.nx [some (false, .int cell), some (false, .int count), some (false, .int limit), some (true, .lst ((fs.map fun n : Nat => (n : Int)).map D.int ++ [D.int n])), some (false, .int i), some (false, .int m2)] = _
  rw [List.map_append, List.map_append]
  rfl
theorem num_loop2 (count limit : Nat) (hl : 0 < limit ∧ limit < 1073741824) (cell : Int) : ∀ (m i : Nat) (fs : List Nat) (a b : Sl), fs.length + m ≤ 16000000 → Bel limit fs →
    ∃ (ns : List Nat) (a' b' : Sl), forL (gNm 4) nbody ((List.range' i m).map fun k : Nat => D.int k)
        [some (false, .int cell), some (false, .int count), some (false, .int limit), some (true, .lst ((fs.map fun n : Nat => (n : Int)).map D.int)), a, b]
      = .nx [some (false, .int cell), some (false, .int count), some (false, .int limit), some (true, .lst ((ns.map fun n : Nat => (n : Int)).map D.int)), a', b'] ∧ ns.length = fs.length + m ∧ Bel limit ns
  | 0, i, fs, a, b, hm, hb => ⟨fs, a, b, rfl, rfl, hb⟩
  | m + 1, i, fs, a, b, hm, hb => by
    obtain ⟨n, m2, hn, ht⟩ := num_turn count limit i hl cell fs b (by omega)
    obtain ⟨ns, a', b', h1, h2, h3⟩ := num_loop2 count limit hl cell m (i + 1) (fs ++ [n]) (some (false, .int i)) (some (false, .int m2)) (by rw [List.length_append, List.length_singleton]; omega) (fun x hx => (List.mem_append.mp hx).elim (hb x) fun z => by rw [List.mem_singleton.mp z]; omega)
    refine ⟨ns, a', b', ?_, by rw [h2, List.length_append, List.length_singleton]; omega, h3⟩
    rw [List.range'_succ, List.map_cons]
    exact forL_n (ρ1 := [some (false, .int cell), some (false, .int count), some (false, .int limit), some (true, .lst ((fs.map fun n : Nat => (n : Int)).map D.int)), some (false, .int i), b]) rfl ht h1
theorem e_numbers (cell : Int) (count limit : Nat) (hc : count ≤ 1000000) (hl : 0 < limit ∧ limit < 1073741824) :
    ∃ ns : List Nat, F__law_numbers [.int cell, .int count, .int limit] = .ok (.fr, .lst ((ns.map fun n : Nat => (n : Int)).map D.int)) ∧ ns.length = count ∧ Bel limit ns := by
  let ρ0 : Ro := [some (false, .int cell), some (false, .int count), some (false, .int limit), none, none, none]
  let ρ : Ro := [some (false, .int cell), some (false, .int count), some (false, .int limit), some (true, .lst []), none, none]
  have r1 : iRng (eVar 1) ρ = .ok (false, (List.range' 0 count).map fun k : Nat => D.int k) := iRng_ok (k := .cl) rfl (by omega)
  have t : t2 gGe (eVar 0) (op2 gPow (eC (.int 10)) (eC (.int 18))) ρ = .ok (decide ((10 : Int) ^ (18 : Int).toNat ≤ cell)) := t2_ok (k1 := .cl) (x := .int cell) rfl (op2_ok (k1 := .cl) (x := .int 10) (k2 := .cl) (y := .int 18) rfl rfl (gPow_i (by decide))) rfl
  have hs : sSet 3 (disp (fun ds => (.fr, .lst ds)) aNil) ρ0 = .nx ρ := rfl
  cases q : decide ((10 : Int) ^ (18 : Int).toNat ≤ cell) with
  | true =>
    rw [q] at t
    obtain ⟨ns, cell', a', h1, h2, h3⟩ := num_loop1 count limit hl count 0 cell [] none none (by rw [List.length_nil]; omega) (fun _ h => absurd h List.not_mem_nil)
    refine ⟨ns, fn_ok (ρ0 := ρ0) (s := .rt (.fr, .lst ((ns.map fun n : Nat => (n : Int)).map D.int))) rfl rfl ?_ rfl, by rw [h2]; exact Nat.zero_add _, h3⟩
    unfold B__law_numbers
    exact sSeq_n hs (sSeq_r (sIf_t t (sSeq_n (sFor_ok r1 h1) rfl)))
  | false =>
    rw [q] at t
    obtain ⟨ns, a', b', h1, h2, h3⟩ := num_loop2 count limit hl cell count 0 [] none none (by rw [List.length_nil]; omega) (fun _ h => absurd h List.not_mem_nil)
    refine ⟨ns, fn_ok (ρ0 := ρ0) (s := .rt (.fr, .lst ((ns.map fun n : Nat => (n : Int)).map D.int))) rfl rfl ?_ rfl, by rw [h2]; exact Nat.zero_add _, h3⟩
    unfold B__law_numbers
    exact sSeq_n hs (sSeq_n (ρ1 := ρ) (sIf_f t rfl) (sSeq_n (sFor_ok r1 h1) rfl))
theorem e_signs (d : Int) (count : Nat) (hc : count ≤ 100000) : ∃ x, F__law_signs [.int d, .int count] = .ok (.cl, .str x) ∧ x.length = count ∧ ∀ c ∈ x, c ∈ known := by
  obtain ⟨ns, h1, h2, h3⟩ := e_numbers d count known.length (by omega) (by decide)
  have kl : known.length = 74 := by decide
  have hk : ∀ n, n < known.length → known[n]? = some (known.getD n 0) := fun n hn => by rw [List.getD_eq_getElem?_getD, List.getElem?_eq_getElem hn]; rfl
  let ρ : Ro := [some (false, .int d), some (false, .int count), some (false, .str known), none]
  refine ⟨ns.map fun n => known.getD n 0, fn_ok (ρ0 := [some (false, .int d), some (false, .int count), none, none]) (s := .rt (.cl, .str (ns.map fun n => known.getD n 0))) rfl rfl ?_ rfl, by rw [List.length_map, h2], fun c hc => ?_⟩
  · unfold B__law_signs
    refine sSeq_n (ρ1 := ρ) rfl (sRet_ok (mth1_ok (k1 := .cl) (a := []) (k2 := .fr) (y := .lst ((ns.map fun n => [known.getD n 0]).map D.str)) rfl (lcF_ok (p := (false, (ns.map fun n : Nat => (n : Int)).map D.int)) (ys := (ns.map fun n => [known.getD n 0]).map D.str) ?_ ?_ ?_) ?_))
    · have hl : op1 gLen (eVar 2) ρ = .ok (.cl, .int (known.length : Nat)) := op1_ok (k1 := .cl) (x := .str known) rfl (gLen_s (by decide))
      have hcall : eCall F__law_numbers 3 (aCons (eVar 0) (aCons (eVar 1) (aCons (op1 gLen (eVar 2)) aNil))) ρ = .ok (.fr, .lst ((ns.map fun n : Nat => (n : Int)).map D.int)) :=
        eCall_ok (aCons_ok rfl (aCons_ok rfl (aCons_ok hl rfl))) rfl rfl h1 (noLs_ints _)
      unfold iVal
      rw [hcall]
      rfl
    · simp only [List.length_map]; omega
    · rw [List.map_map, lcA_map (g := fun n => D.str [known.getD n 0]), List.map_map]
      · rfl
      · intro n hn
        have := h3 n hn
        refine turn_ok (ρ1 := [some (false, .int d), some (false, .int count), some (false, .str known), some (false, .int n)]) rfl rfl (e := (.cl, .str [known.getD n 0])) ?_ rfl
        exact op2_ok (k1 := .cl) (x := .str known) (k2 := .cl) (y := .int n) rfl rfl (gIx_s (by decide) (hk n this))
    · rw [gJoin_l (by rw [one_fit]; omega), joinL_nil, flat_one]
  · obtain ⟨n, hn, e⟩ := List.mem_map.mp hc
    rw [← e]
    exact List.mem_of_getElem? (hk n (h3 n hn))
theorem e_bent {text ds : List Nat} {q : Nat} (ht : text.length ≤ 10000) (hq : q + 2 < ds.length) : ∃ z : List Nat, F__law_bent [.str text, numD ds, .int q] = .ok (.cl, .str z) ∧ z.length ≤ 20001 := by
  let sg : List Nat := [48, 49, 50, 51, 52, 53, 54, 55, 56, 57, 32, 10, 44, 47, 34, 92, 97, 98, 100, 110, 116, 64, 42, 124, 126]
  let spot := ds[q] % (text.length + 1)
  let i := ds[q + 1] % sg.length
  have hi : i < sg.length := Nat.mod_lt _ (by decide)
  let kd := ds[q + 2] % 7
  have cI : ∀ (n : Nat) (ρ : Ro), eC (.int n) ρ = .ok (.cl, .int (n : Int)) := fun _ _ => rfl
  let ρ0 : Ro := [some (false, .str text), some (false, numD ds), some (false, .int q), none, none, none, none]
  let ρ1 : Ro := [some (false, .str text), some (false, numD ds), some (false, .int q), some (false, .str sg), none, none, none]
  let ρ2 : Ro := [some (false, .str text), some (false, numD ds), some (false, .int q), some (false, .str sg), some (false, .int spot), none, none]
  let ρ3 : Ro := [some (false, .str text), some (false, numD ds), some (false, .int q), some (false, .str sg), some (false, .int spot), some (false, .str [sg[i]]), none]
  let ρ : Ro := [some (false, .str text), some (false, numD ds), some (false, .int q), some (false, .str sg), some (false, .int spot), some (false, .str [sg[i]]), some (false, .int kd)]
  have md : ∀ {ρ : Ro} {fa fb : EF} {k k2 : Kd} {x y : Nat}, fa ρ = .ok (k, .int x) → fb ρ = .ok (k2, .int y) → 0 < y → op2 gMod fa fb ρ = .ok (.cl, .int ((x % y : Nat) : Int)) := fun h1 h2 h3 => op2_ok h1 h2 ((gMod_i (by omega)).trans (congrArg (fun z => R.ok (Kd.cl, D.int z)) (Int.natCast_emod _ _).symm))
  have e4 : op2 gMod (op2 gIx (eVar 1) (eVar 2)) (op2 gAdd (op1 gLen (eVar 0)) (eC (.int 1))) ρ1 = .ok (.cl, .int (spot : Nat)) :=
    md (ixN_ok (ds := ds) (k := .cl) (k2 := .cl) (i := q) rfl rfl (by omega)) (addN (lenS (k := .cl) (x := text) rfl (by omega)) (cI 1 ρ1)) (by omega)
  have e5 : op2 gIx (eVar 3) (op2 gMod (op2 gIx (eVar 1) (op2 gAdd (eVar 2) (eC (.int 1)))) (op1 gLen (eVar 3))) ρ2 = .ok (.cl, .str [sg[i]]) :=
    ixS (k := .cl) (x := sg) rfl (md (ixN_ok (ds := ds) (k := .cl) (i := q + 1) rfl (addN (k := .cl) (x := q) rfl (cI 1 ρ2)) (by omega)) (lenS (k := .cl) (x := sg) rfl (by decide)) (by decide)) (by decide) (List.getElem?_eq_getElem hi)
  have e6 : op2 gMod (op2 gIx (eVar 1) (op2 gAdd (eVar 2) (eC (.int 2)))) (eC (.int 7)) ρ3 = .ok (.cl, .int (kd : Nat)) :=
    md (ixN_ok (ds := ds) (k := .cl) (i := q + 2) rfl (addN (k := .cl) (x := q) rfl (cI 2 ρ3)) (by omega)) (cI 7 ρ3) (by decide)
  have v0 : eVar 0 ρ = .ok (.cl, .str text) := rfl
  have v4 : eVar 4 ρ = .ok (.cl, .int spot) := rfl
  have v5 : eVar 5 ρ = .ok (.cl, .str [sg[i]]) := rfl
  have v6 : eVar 6 ρ = .ok (.cl, .int kd) := rfl
  have T0 : Tx ρ (eVar 0) 10000 := ⟨_, v0, ht⟩
  have N4 : Nm ρ (eVar 4) spot := ⟨_, _, v4, Nat.le_refl _⟩
  have T5 : Tx ρ (eVar 5) 1 := ⟨_, v5, Nat.le_refl _⟩
  have N41 : Nm ρ (op2 gAdd (eVar 4) (eC (.int 1))) (spot + 1) := N4.add (Nm.con 1)
  have N5 : Nm ρ (op2 gMod (op2 gIx (eVar 1) (op2 gAdd (eVar 2) (eC (.int 1)))) (op2 gAdd (op1 gLen (eVar 0)) (eC (.int 1)))) 10000 :=
    Nm.mod (Nm.ix (ds := ds) (m := q + 1) ⟨.cl, rfl⟩ ⟨.cl, addN (k := .cl) (x := q) rfl (cI 1 ρ)⟩ (by omega)) (pos_add (m := 1) (Nm.len T0 (by decide)) (by decide))
  have A := T0.to N4 (by decide)
  have tq : ∀ j : Int, t2 gEq (eVar 6) (eC (.int j)) ρ = .ok ((kd : Int) == j) := fun j => t2_ok v6 (k2 := .cl) (y := .int j) rfl gEq_i
  have ret : ∀ {f : EF} {n : Nat}, Tx ρ f n → n ≤ 20001 → ∃ z : List Nat, sRet f ρ = .rt (.cl, .str z) ∧ z.length ≤ 20001 := fun {f n} ⟨x, e, l⟩ hn => ⟨x, sRet_ok e, by omega⟩
  have step : ∀ {f : EF} {n : Nat} {j : Int} {g : SF}, Tx ρ f n → n ≤ 20001 → (∃ z : List Nat, g ρ = .rt (.cl, .str z) ∧ z.length ≤ 20001) → ∃ z : List Nat, sSeq (sIf (t2 gEq (eVar 6) (eC (.int j))) (sRet f) sSkip) g ρ = .rt (.cl, .str z) ∧ z.length ≤ 20001 := fun {f n j g} h hn hg => by
    have t := tq j
    cases e : (kd : Int) == j with
    | true =>
      rw [e] at t
      obtain ⟨z, hz, hl⟩ := ret h hn
      exact ⟨z, sSeq_r (sIf_t t hz), hl⟩
    | false =>
      rw [e] at t
      obtain ⟨z, hz, hl⟩ := hg
      exact ⟨z, sSeq_n (ρ1 := ρ) (sIf_f t rfl) hz, hl⟩
  have body : ∃ z : List Nat, B__law_bent ρ0 = .rt (.cl, .str z) ∧ z.length ≤ 20001 := by
    obtain ⟨z, hz, hl⟩ := step (j := 0) (A.add (T0.from N41 (by decide)) (by decide)) (by decide) (step (j := 1) ((A.add T5 (by decide)).add (T0.from N41 (by decide)) (by decide)) (by decide) (step (j := 2) A (by decide)
      (step (j := 3) (T0.add T5 (by decide)) (by decide) (step (j := 4) (T5.add T0 (by decide)) (by decide) (step (j := 5) (A.add (T0.from N5 (by decide)) (by decide)) (by decide) (ret ((A.add T5 (by decide)).add (T0.from N4 (by decide)) (by decide)) (by decide)))))))
    refine ⟨z, ?_, hl⟩
    unfold B__law_bent
    exact sSeq_n (ρ1 := ρ1) rfl (sSeq_n (ρ1 := ρ2) (sSet_c e4) (sSeq_n (ρ1 := ρ3) (sSet_c e5) (sSeq_n (ρ1 := ρ) (sSet_c e6) hz)))
  obtain ⟨z, hz, hl⟩ := body
  exact ⟨z, fn_ok (ρ0 := ρ0) rfl rfl hz rfl, hl⟩
end PL
set_option Elab.async false
set_option linter.all false
set_option maxRecDepth 100000
set_option maxHeartbeats 4000000
/-! Mb55: how words are read. -/
namespace PL
open PySem PySem.Spec L2

/-! ### what is read, on lists -/
def isE (c : Nat) : Bool := c == 92 || c == 34 || c == 110
def unE (c : Nat) : Nat := if c = 110 then 10 else c
/-- behind a quote: the text up to the next one, and what follows -/
def qt : List Nat → Option (List Nat × List Nat)
  | [] => none
  | [c] => if c = 34 then some ([], []) else none
  | c :: d :: r => if c = 34 then some ([], d :: r) else if c = 92 then (if isE d = true then (qt r).map fun p => (unE d :: p.1, p.2) else none) else (qt (d :: r)).map fun p => (c :: p.1, p.2)
def TEXT : List Nat := [116, 101, 120, 116]
def one (l : List Nat) : Option (D × List Nat) :=
  if l.head? = some 34 then (qt l.tail).map fun p => (.tup [.str TEXT, .str p.1], p.2)
  else if l.takeWhile (· != 32) = [] ∨ 34 ∈ l.takeWhile (· != 32) then none else some (.str (l.takeWhile (· != 32)), l.dropWhile (· != 32))
def P : Nat → List Nat → Option (List D)
  | 0, _ => none
  | n + 1, l => match one l with
    | none => none
    | some (w, r) => match r with
      | [] => some [w]
      | c :: r' => if c = 32 then (P n r').map (w :: ·) else none
abbrev IT : Str := "InvalidText"

/-! ### rules for what is raised -/
section
variable {ρ : Ro} {fa fb : EF} {k : Kd}
theorem eCall_exc {f : FD} {n : Nat} {fs : AF} {es : List Ev} {ds : List D} {c : Str} (ha : fs ρ = .ok es) (hd : es.map (·.2) = ds) (hn : es.length = n) (hf : f ds = .exc c) : eCall f n fs ρ = .exc c := by
  subst hd
  unfold eCall
  rw [ha, R.bind_ok, if_pos hn, hf]
  cases es.any pkL with
  | true => rfl
  | false => rfl
theorem sDrop_ok {e : Ev} (h : fa ρ = .ok e) : sDrop fa ρ = .nx ρ := by unfold sDrop; rw [h]; rfl
theorem sDrop_exc {c : Str} (h : fa ρ = .exc c) : sDrop fa ρ = .exc c ρ := by unfold sDrop; rw [h]; rfl
theorem sSeq_e {f g : SF} {c : Str} {ρ1 : Ro} (h : f ρ = .exc c ρ1) : sSeq f g ρ = .exc c ρ1 := by unfold sSeq; rw [h]
theorem while_f {t : TF} {fb : SF} {n : Nat} (h : t ρ = .ok false) : whileL t fb (n + 1) ρ = .nx ρ := by unfold whileL; rw [h]
theorem while_n {t : TF} {fb : SF} {n : Nat} {ρ1 : Ro} {s : SRes} (h : t ρ = .ok true) (hb : fb ρ = .nx ρ1) (k : whileL t fb n ρ1 = s) : whileL t fb (n + 1) ρ = s := by
  unfold whileL; rw [h]
  show (match fb ρ with | .nx ρ2 => whileL t fb n ρ2 | .ct ρ2 => whileL t fb n ρ2 | .bk ρ2 => .nx ρ2 | r => r) = s
  rw [hb]; exact k
theorem while_e {t : TF} {fb : SF} {n : Nat} {ρ1 : Ro} {c : Str} (h : t ρ = .ok true) (hb : fb ρ = .exc c ρ1) : whileL t fb (n + 1) ρ = .exc c ρ1 := by
  unfold whileL; rw [h]
  show (match fb ρ with | .nx ρ2 => whileL t fb n ρ2 | .ct ρ2 => whileL t fb n ρ2 | .bk ρ2 => .nx ρ2 | r => r) = _
  rw [hb]
theorem while_r {t : TF} {fb : SF} {n : Nat} {e : Ev} (h : t ρ = .ok true) (hb : fb ρ = .rt e) : whileL t fb (n + 1) ρ = .rt e := by
  unfold whileL; rw [h]
  show (match fb ρ with | .nx ρ2 => whileL t fb n ρ2 | .ct ρ2 => whileL t fb n ρ2 | .bk ρ2 => .nx ρ2 | r => r) = _
  rw [hb]
theorem sAug_ok {i : Nat} {f : Int → Int → Int} {x y : Int} (hr : ρ[i]? = some (some (false, .int x))) (h : fa ρ = .ok (k, .int y)) : sAug i f fa ρ = .nx (ρ.set i (some (false, .int (f x y)))) := by
  unfold sAug; rw [hr]
  show sOf (fa ρ) ρ _ = _
  rw [h]
  rfl
theorem eAnd_f (ha : fa ρ = .ok (k, .bl false)) : eAnd fa fb ρ = .ok (k, .bl false) := by
  unfold eAnd
  rw [ha, R.bind_ok]
  show (if false = true then fb ρ else R.ok (k, D.bl false)) = _
  rw [if_neg Bool.false_ne_true]
theorem eOr_t (ha : fa ρ = .ok (k, .bl true)) : eOr fa fb ρ = .ok (k, .bl true) := by
  unfold eOr
  rw [ha, R.bind_ok]
  show (if true = true then R.ok (k, D.bl true) else fb ρ) = _
  rw [if_pos rfl]
theorem eOr_f {q : R Ev} (ha : fa ρ = .ok (k, .bl false)) (hb : fb ρ = q) : eOr fa fb ρ = q := by
  unfold eOr
  rw [ha, R.bind_ok]
  show (if false = true then R.ok (k, D.bl false) else fb ρ) = _
  rw [if_neg Bool.false_ne_true, hb]
/-- x[i:j] -/
theorem slMid {x : List Nat} {i j : Nat} {fl fh : EF} {k2 k3 : Kd} (ha : fa ρ = .ok (k, .str x)) (hl : fl ρ = .ok (k2, .int i)) (hh : fh ρ = .ok (k3, .int j)) (hz : x.length ≤ 16777216) : eSl fa (oSome fl) (oSome fh) ρ = .ok (.cl, .str ((x.drop i).take (j - i))) := by
  unfold eSl
  rw [ha, R.bind_ok]
  unfold oSome
  rw [hl, R.bind_ok]
  show (R.ok (some (i : Int))).bind _ = _
  rw [R.bind_ok, hh, R.bind_ok]
  show gSl (.str x) (some (i : Int)) (some (j : Int)) = _
  rw [gSl_s hz, cut_mid, List.drop_take]
end
theorem e_demand (b : Bool) : F_demand [.bl b] = if b = true then .ok (.cl, .non) else .exc IT := by
  have t : ∀ b : Bool, tNotF (tVal (eVar 0)) [some (false, .bl b)] = .ok (!b) := fun b => tNot_ok (tVal_b (k := .cl) rfl)
  cases b with
  | true => exact fn_ok (ρ0 := [some (false, .bl true)]) (s := .nx [some (false, .bl true)]) rfl rfl (sIf_f (t true) rfl) rfl
  | false => exact fn_ok (ρ0 := [some (false, .bl false)]) (s := .exc IT [some (false, .bl false)]) rfl rfl (sIf_t (t false) rfl) rfl
section
variable {ρ : Ro} {fa : EF} {k : Kd}
theorem dem_ok (h : fa ρ = .ok (k, .bl true)) : sDrop (eCall F_demand 1 (aCons fa aNil)) ρ = .nx ρ := sDrop_ok (eCall_ok (aCons_ok h rfl) rfl rfl (e_demand true) rfl)
theorem dem_exc (h : fa ρ = .ok (k, .bl false)) : sDrop (eCall F_demand 1 (aCons fa aNil)) ρ = .exc IT ρ := sDrop_exc (eCall_exc (aCons_ok h rfl) rfl rfl (e_demand false))
end

/-! ### a quoted text -/
def qC : TF := t2 gNe (eSl (eVar 0) (oSome (eVar 1)) (oSome (op2 gAdd (eVar 1) (eC (.int 1))))) (eC (.str [34]))
def qB : SF := (sSeq (sDrop (eCall (F_demand) 1 (aCons (op2 gLt (eVar 1) (op1 gLen (eVar 0))) (aNil)))) <|
    sIf (t2 gEq (op2 gIx (eVar 0) (eVar 1)) (eC (.str [92]))) (sSeq (sDrop (eCall (F_demand) 1 (aCons (op1 (gKin dict_ESCAPES) (eSl (eVar 0) (oSome (eVar 1)) (oSome (op2 gAdd (eVar 1) (eC (.int 2)))))) (aNil)))) <|
    sSeq (sSet 2 (op2 gAdd (eVar 2) (op1 (gKix dict_ESCAPES) (eSl (eVar 0) (oSome (eVar 1)) (oSome (op2 gAdd (eVar 1) (eC (.int 2)))))))) <|
    sAug 1 (fun i j => i + j) (eC (.int 2))) (sSeq (sSet 2 (op2 gAdd (eVar 2) (op2 gIx (eVar 0) (eVar 1)))) <|
    sAug 1 (fun i j => i + j) (eC (.int 1))))
def qE (row : List Nat) (p : Nat) (acc : List Nat) : Ro := [some (false, .str row), some (false, .int p), some (false, .str acc)]
theorem esc_look (c d : Nat) : dict_ESCAPES.lookup [c, d] = if c = 92 ∧ isE d = true then some [unE d] else none := by
  unfold dict_ESCAPES isE
  by_cases h : c = 92
  · subst h
    by_cases h1 : d = 92
    · subst h1; decide
    · by_cases h2 : d = 34
      · subst h2; decide
      · by_cases h3 : d = 110
        · subst h3; decide
        · have e1 : ([92, d] == [92, 92]) = false := beq_false_of_ne fun z => h1 (List.cons.inj (List.cons.inj z).2).1
          have e2 : ([92, d] == [92, 34]) = false := beq_false_of_ne fun z => h2 (List.cons.inj (List.cons.inj z).2).1
          have e3 : ([92, d] == [92, 110]) = false := beq_false_of_ne fun z => h3 (List.cons.inj (List.cons.inj z).2).1
          rw [List.lookup_cons, e1, List.lookup_cons, e2, List.lookup_cons, e3, List.lookup_nil, if_neg]
          rintro ⟨_, z⟩
          simp [h1, h2, h3] at z
  · have e : ∀ b, ([c, d] == [92, b]) = false := fun b => beq_false_of_ne fun z => h (List.cons.inj z).1
    rw [List.lookup_cons, e, List.lookup_cons, e, List.lookup_cons, e, List.lookup_nil, if_neg]
    exact fun z => h z.1
theorem esc_one (c : Nat) : dict_ESCAPES.lookup [c] = none := by
  unfold dict_ESCAPES
  have e : ∀ a b, ([c] == [a, b]) = false := fun a b => beq_false_of_ne fun z => nomatch (List.cons.inj z).2
  rw [List.lookup_cons, e, List.lookup_cons, e, List.lookup_cons, e, List.lookup_nil]
theorem q_turn {row acc : List Nat} {p : Nat} (hz : row.length ≤ 100000) (ha : acc.length ≤ 100000) : qC (qE row p acc) = .ok (!((row.drop p).take 1 == [34])) ∧
    (row.drop p = [] → qB (qE row p acc) = .exc IT (qE row p acc)) ∧
    (∀ r, row.drop p = [92] → r = qE row p acc → qB (qE row p acc) = .exc IT r) ∧
    (∀ d r, row.drop p = 92 :: d :: r → qB (qE row p acc) = if isE d = true then .nx (qE row (p + 2) (acc ++ [unE d])) else .exc IT (qE row p acc)) ∧
    (∀ c r, row.drop p = c :: r → c ≠ 92 → qB (qE row p acc) = .nx (qE row (p + 1) (acc ++ [c]))) := by
  let ρ := qE row p acc
  have v0 : eVar 0 ρ = .ok (.cl, .str row) := rfl
  have v1 : eVar 1 ρ = .ok (.cl, .int p) := rfl
  have v2 : eVar 2 ρ = .ok (.cl, .str acc) := rfl
  have s1 : eSl (eVar 0) (oSome (eVar 1)) (oSome (op2 gAdd (eVar 1) (eC (.int 1)))) ρ = .ok (.cl, .str ((row.drop p).take 1)) := by
    have := slMid v0 v1 (addN v1 (cI 1 ρ)) (by omega)
    rwa [Nat.add_sub_cancel_left] at this
  have s2 : eSl (eVar 0) (oSome (eVar 1)) (oSome (op2 gAdd (eVar 1) (eC (.int 2)))) ρ = .ok (.cl, .str ((row.drop p).take 2)) := by
    have := slMid v0 v1 (addN v1 (cI 2 ρ)) (by omega)
    rwa [Nat.add_sub_cancel_left] at this
  have lt : op2 gLt (eVar 1) (op1 gLen (eVar 0)) ρ = .ok (.cl, .bl (decide ((p : Int) < (row.length : Int)))) := op2_ok v1 (lenS v0 (by omega)) rfl
  have hlen : ∀ {c : Nat} {r : List Nat}, row.drop p = c :: r → p < row.length ∧ row[p]? = some c := fun {c r} h => by
    have h1 : p < row.length := by
      by_cases q : p < row.length
      · exact q
      · rw [List.drop_eq_nil_of_le (by omega)] at h; cases h
    refine ⟨h1, ?_⟩
    rw [List.drop_eq_getElem_cons h1] at h
    rw [List.getElem?_eq_getElem h1, (List.cons.inj h).1]
  have kin : op1 (gKin dict_ESCAPES) (eSl (eVar 0) (oSome (eVar 1)) (oSome (op2 gAdd (eVar 1) (eC (.int 2))))) ρ = .ok (.cl, .bl (dict_ESCAPES.lookup ((row.drop p).take 2)).isSome) := op1_ok s2 rfl
  refine ⟨t2_ok (k2 := .cl) (y := .str [34]) s1 rfl gNe_s, fun h => ?_, fun r h hr => ?_, fun d r h => ?_, fun c r h hc => ?_⟩
  · have : ¬ p < row.length := fun q => by rw [List.drop_eq_getElem_cons q] at h; cases h
    rw [decide_eq_false (by omega)] at lt
    exact sSeq_e (dem_exc lt)
  · subst hr
    obtain ⟨h1, h2⟩ := hlen h
    rw [decide_eq_true (by omega)] at lt
    have t : t2 gEq (op2 gIx (eVar 0) (eVar 1)) (eC (.str [92])) ρ = .ok true := t2_ok (k2 := .cl) (y := .str [92]) (ixS v0 v1 (by omega) h2) rfl (by rw [gEq_s]; rfl)
    rw [h, show ([92] : List Nat).take 2 = [92] from rfl, esc_one] at kin
    exact sSeq_n (dem_ok lt) (sIf_t t (sSeq_e (dem_exc kin)))
  · obtain ⟨h1, h2⟩ := hlen h
    rw [decide_eq_true (by omega)] at lt
    have t : t2 gEq (op2 gIx (eVar 0) (eVar 1)) (eC (.str [92])) ρ = .ok true := t2_ok (k2 := .cl) (y := .str [92]) (ixS v0 v1 (by omega) h2) rfl (by rw [gEq_s]; rfl)
    rw [h, show (92 :: d :: r).take 2 = [92, d] from rfl, esc_look] at kin
    rw [h, show (92 :: d :: r).take 2 = [92, d] from rfl] at s2
    by_cases q : isE d = true
    · rw [if_pos ⟨rfl, q⟩] at kin
      rw [if_pos q]
      have kix : op1 (gKix dict_ESCAPES) (eSl (eVar 0) (oSome (eVar 1)) (oSome (op2 gAdd (eVar 1) (eC (.int 2))))) ρ = .ok (.cl, .str [unE d]) := by
        refine op1_ok s2 ?_
        show (match dict_ESCAPES.lookup [92, d] with | some y => R.ok (Kd.cl, D.str y) | none => .bad) = _
        rw [esc_look, if_pos ⟨rfl, q⟩]
      have s3 : sSet 2 (op2 gAdd (eVar 2) (op1 (gKix dict_ESCAPES) (eSl (eVar 0) (oSome (eVar 1)) (oSome (op2 gAdd (eVar 1) (eC (.int 2))))))) ρ = .nx (qE row p (acc ++ [unE d])) := sSet_c (addS v2 kix (by rw [List.length_singleton]; omega))
      exact sSeq_n (dem_ok lt) (sIf_t t (sSeq_n (dem_ok kin) (sSeq_n s3 (sAug_ok (x := p) (k := .cl) (y := 2) rfl rfl))))
    · rw [if_neg fun z => q z.2] at kin
      rw [if_neg q]
      exact sSeq_n (dem_ok lt) (sIf_t t (sSeq_e (dem_exc kin)))
  · obtain ⟨h1, h2⟩ := hlen h
    rw [decide_eq_true (by omega)] at lt
    have t : t2 gEq (op2 gIx (eVar 0) (eVar 1)) (eC (.str [92])) ρ = .ok false := t2_ok (k2 := .cl) (y := .str [92]) (ixS v0 v1 (by omega) h2) rfl (by rw [gEq_s, beq_false_of_ne fun z => hc (List.cons.inj z).1])
    have s3 : sSet 2 (op2 gAdd (eVar 2) (op2 gIx (eVar 0) (eVar 1))) ρ = .nx (qE row p (acc ++ [c])) := sSet_c (addS v2 (ixS v0 v1 (by omega) h2) (by rw [List.length_singleton]; omega))
    exact sSeq_n (dem_ok lt) (sIf_f t (sSeq_n s3 (sAug_ok (x := p) (k := .cl) (y := 1) rfl rfl)))
theorem q_loop (row : List Nat) (hz : row.length ≤ 50000) : ∀ (n p : Nat) (acc : List Nat), (row.drop p).length < n → acc.length + (row.drop p).length ≤ 50000 → p ≤ row.length →
    match qt (row.drop p) with
    | some (t, r) => ∃ p', whileL qC qB n (qE row p acc) = .nx (qE row p' (acc ++ t)) ∧ row.drop p' = 34 :: r
    | none => ∃ ρ', whileL qC qB n (qE row p acc) = .exc IT ρ'
  | 0, p, acc, h, _, _ => absurd h (Nat.not_lt_zero _)
  | n + 1, p, acc, h, ha, hp => by
    obtain ⟨tC, t0, t1, t2, t3⟩ := q_turn (row := row) (acc := acc) (p := p) (by omega) (by omega)
    cases hd : row.drop p with
    | nil =>
      rw [hd] at tC
      exact ⟨_, while_e (tC.trans (by rfl)) (t0 hd)⟩
    | cons c l =>
      rw [hd, List.length_cons] at h ha
      have hp1 : p < row.length := by
        by_cases q : p < row.length
        · exact q
        · rw [List.drop_eq_nil_of_le (by omega)] at hd; cases hd
      have hd1 : row.drop (p + 1) = l := by
        rw [List.drop_eq_getElem_cons hp1] at hd
        exact (List.cons.inj hd).2
      rw [hd, show (c :: l).take 1 = [c] from rfl] at tC
      by_cases c34 : c = 34
      · subst c34
        have e : qt (34 :: l) = some ([], l) := by cases l <;> rfl
        rw [e]
        exact ⟨p, by rw [while_f (tC.trans (by rfl)), List.append_nil], hd⟩
      · have tt : qC (qE row p acc) = .ok true := by rw [tC, beq_false_of_ne fun z => c34 (List.cons.inj z).1]; rfl
        by_cases c92 : c = 92
        · subst c92
          cases l with
          | nil => exact ⟨_, while_e tt (t1 _ hd rfl)⟩
          | cons d r =>
            have hb := t2 d r hd
            have e : qt (92 :: d :: r) = if isE d = true then (qt r).map fun p => (unE d :: p.1, p.2) else none := rfl
            rw [e]
            by_cases q : isE d = true
            · rw [if_pos q] at hb ⊢
              have hp2 : p + 1 < row.length := by
                by_cases q : p + 1 < row.length
                · exact q
                · rw [List.drop_eq_nil_of_le (by omega)] at hd1; cases hd1
              have hd2 : row.drop (p + 2) = r := by
                rw [List.drop_eq_getElem_cons hp2] at hd1
                exact (List.cons.inj hd1).2
              rw [List.length_cons] at h ha
              have ih := q_loop row hz n (p + 2) (acc ++ [unE d]) (by rw [hd2]; omega) (by rw [hd2, List.length_append, List.length_singleton]; omega) (by omega)
              rw [hd2] at ih
              cases er : qt r with
              | none =>
                rw [er] at ih
                obtain ⟨ρ', h1⟩ := ih
                exact ⟨ρ', while_n tt hb h1⟩
              | some z =>
                obtain ⟨t, r'⟩ := z
                rw [er] at ih
                obtain ⟨p', h1, h2⟩ := ih
                refine ⟨p', while_n tt hb ?_, h2⟩
                rw [h1, List.append_assoc]
                rfl
            · rw [if_neg q] at hb ⊢
              exact ⟨_, while_e tt hb⟩
        · have hb := t3 c l hd c92
          have ih := q_loop row hz n (p + 1) (acc ++ [c]) (by rw [hd1]; omega) (by rw [hd1, List.length_append, List.length_singleton]; omega) (by omega)
          rw [hd1] at ih
          have e : qt (c :: l) = (qt l).map fun p => (c :: p.1, p.2) := by
            cases l with
            | nil => show (if c = 34 then some (([] : List Nat), ([] : List Nat)) else none) = _; rw [if_neg c34]; rfl
            | cons d r => show (if c = 34 then _ else if c = 92 then _ else _) = _; rw [if_neg c34, if_neg c92]
          rw [e]
          cases er : qt l with
          | none =>
            rw [er] at ih
            obtain ⟨ρ', h1⟩ := ih
            exact ⟨ρ', while_n tt hb h1⟩
          | some z =>
            obtain ⟨t, r'⟩ := z
            rw [er] at ih
            obtain ⟨p', h1, h2⟩ := ih
            refine ⟨p', while_n tt hb ?_, h2⟩
            rw [h1, List.append_assoc]
            rfl
end PL
set_option Elab.async false
set_option linter.all false
set_option maxRecDepth 100000
set_option maxHeartbeats 4000000
/-! Mc55: the words of a row, as the program reads them. -/
namespace PL
open PySem PySem.Spec L2

theorem qt_len : ∀ (l : List Nat) {t r : List Nat}, qt l = some (t, r) → t.length + r.length ≤ l.length
  | [], t, r, h => nomatch h
  | [c], t, r, h => by
    have h : (if c = 34 then some (([] : List Nat), ([] : List Nat)) else none) = some (t, r) := h
    split at h
    · cases h; exact Nat.zero_le _
    · cases h
  | c :: d :: l, t, r, h => by
    have h : (if c = 34 then some ([], d :: l) else if c = 92 then (if isE d = true then (qt l).map fun p => (unE d :: p.1, p.2) else none) else (qt (d :: l)).map fun p => (c :: p.1, p.2)) = some (t, r) := h
    simp only [List.length_cons]
    split at h
    · cases h; simp
    · split at h
      · split at h
        · cases e : qt l with
          | none => rw [e] at h; cases h
          | some p =>
            rw [e] at h
            have ih := qt_len l (t := p.1) (r := p.2) e
            cases h
            simp only [List.length_cons]
            omega
        · cases h
      · cases e : qt (d :: l) with
        | none => rw [e] at h; cases h
        | some p =>
          rw [e] at h
          have ih := qt_len (d :: l) (t := p.1) (r := p.2) e
          cases h
          simp only [List.length_cons] at ih ⊢
          omega
theorem e_quoted {row l : List Nat} {p : Nat} (hz : row.length ≤ 40000) (hd : row.drop p = 34 :: l) : match qt l with
    | some (t, r) => ∃ q : Nat, F_quoted_from [.str row, .int p] = .ok (.cl, .tup [.tup [.str TEXT, .str t], .int q]) ∧ row.drop q = r ∧ q ≤ row.length
    | none => F_quoted_from [.str row, .int p] = .exc IT := by
  have hp : p < row.length := by
    by_cases q : p < row.length
    · exact q
    · rw [List.drop_eq_nil_of_le (by omega)] at hd; cases hd
  have hd1 : row.drop (p + 1) = l := by
    rw [List.drop_eq_getElem_cons hp] at hd
    exact (List.cons.inj hd).2
  let ρ0 : Ro := [some (false, .str row), some (false, .int p), none]
  let ρ1 : Ro := [some (false, .str row), some (false, .int p), some (false, .str [])]
  have b1 : sSet 2 (eC (.str [])) ρ0 = .nx ρ1 := rfl
  have b2 : sAug 1 (fun i j => i + j) (eC (.int 1)) ρ1 = .nx (qE row (p + 1) []) := sAug_ok (x := p) (k := .cl) (y := 1) rfl rfl
  have hl : l.length ≤ row.length := by rw [← hd1, List.length_drop]; omega
  have lp := q_loop row (by omega) 100000 (p + 1) [] (by rw [hd1]; omega) (by rw [hd1, List.length_nil]; omega) (by omega)
  rw [hd1] at lp
  have body : B_quoted_from = sSeq (sSet 2 (eC (.str []))) (sSeq (sAug 1 (fun i j => i + j) (eC (.int 1))) (sSeq (whileL qC qB 100000) (sRet (disp (fun ds => (.cl, .tup ds)) (aCons (disp (fun ds => (.cl, .tup ds)) (aCons (eC (.str [116, 101, 120, 116])) (aCons (eVar 2) (aNil)))) (aCons (op2 gAdd (eVar 1) (eC (.int 1))) (aNil))))))) := rfl
  cases e : qt l with
  | none =>
    rw [e] at lp
    obtain ⟨ρ', h⟩ := lp
    refine fn_ok (ρ0 := ρ0) (s := .exc IT ρ') rfl rfl ?_ rfl
    rw [body]
    exact sSeq_n b1 (sSeq_n b2 (sSeq_e h))
  | some z =>
    obtain ⟨t, r⟩ := z
    rw [e] at lp
    obtain ⟨p', h, h2⟩ := lp
    have hp' : p' < row.length := by
      by_cases q : p' < row.length
      · exact q
      · rw [List.drop_eq_nil_of_le (by omega)] at h2; cases h2
    have h3 : row.drop (p' + 1) = r := by
      rw [List.drop_eq_getElem_cons hp'] at h2
      exact (List.cons.inj h2).2
    refine ⟨p' + 1, fn_ok (ρ0 := ρ0) (s := .rt (.cl, .tup [.tup [.str TEXT, .str t], .int ((p' + 1 : Nat) : Int)])) rfl rfl ?_ rfl, h3, hp'⟩
    rw [body]
    refine sSeq_n b1 (sSeq_n b2 (sSeq_n h (sRet_ok ?_)))
    refine disp_ok (aCons_ok (disp_ok (aCons_ok rfl (aCons_ok rfl rfl)) rfl (by show 2 ≤ 16777216; decide) rfl) (aCons_ok (addN (k := .cl) (x := p') rfl (cI 1 _)) rfl)) rfl (by show 2 ≤ 16777216; decide) rfl

/-! ### a plain word -/
theorem tw_free (l : List Nat) : 32 ∉ l.takeWhile (· != 32) := fun h => by
  have : ∀ l : List Nat, ∀ c ∈ l.takeWhile (· != 32), c ≠ 32 := by
    intro l
    induction l with
    | nil => exact fun c hc => absurd hc List.not_mem_nil
    | cons d r ih =>
      intro c hc
      rw [List.takeWhile_cons] at hc
      by_cases e : d = 32
      · subst e; simp at hc
      · have : (d != 32) = true := by simpa using e
        rw [if_pos this] at hc
        rcases List.mem_cons.mp hc with z | z
        · rw [z]; exact e
        · exact ih c z
  exact this l 32 h rfl
theorem dw_head (l : List Nat) : l.dropWhile (· != 32) = [] ∨ ∃ r, l.dropWhile (· != 32) = 32 :: r := by
  induction l with
  | nil => exact .inl rfl
  | cons d r ih =>
    rw [List.dropWhile_cons]
    by_cases e : d = 32
    · subst e
      exact .inr ⟨r, by simp⟩
    · have : (d != 32) = true := by simpa using e
      rw [if_pos this]
      exact ih
theorem tw_dw (l : List Nat) : l.takeWhile (· != 32) ++ l.dropWhile (· != 32) = l := List.takeWhile_append_dropWhile
theorem fnd_word {row : List Nat} {p : Nat} (hp : p ≤ row.length) : (if fnd 32 row p < 0 then (row.length : Int) else fnd 32 row p) = ((p + ((row.drop p).takeWhile (· != 32)).length : Nat) : Int) := by
  have h1 := tw_free (row.drop p)
  have h2 := tw_dw (row.drop p)
  rcases dw_head (row.drop p) with h3 | ⟨r, h3⟩
  · rw [h3, List.append_nil] at h2
    rw [h2] at h1 ⊢
    unfold fnd
    rw [fndL_none h1]
    show (if (-1 : Int) < 0 then (row.length : Int) else -1) = _
    rw [if_pos (by decide), List.length_drop]
    congr 1
    omega
  · unfold fnd
    rw [h3] at h2
    rw [← h2, fndL_app h1]
    show (if (((p + ((row.drop p).takeWhile (· != 32)).length : Nat)) : Int) < 0 then _ else (((p + ((row.drop p).takeWhile (· != 32)).length : Nat)) : Int)) = _
    rw [if_neg (by omega), h2]
theorem e_plain {row : List Nat} {p : Nat} (hz : row.length ≤ 40000) (hp : p ≤ row.length) :
    if (row.drop p).takeWhile (· != 32) = [] ∨ 34 ∈ (row.drop p).takeWhile (· != 32) then F_plain_from [.str row, .int p] = .exc IT
    else ∃ q : Nat, F_plain_from [.str row, .int p] = .ok (.cl, .tup [.str ((row.drop p).takeWhile (· != 32)), .int q]) ∧ row.drop q = (row.drop p).dropWhile (· != 32) ∧ q ≤ row.length := by
  have hw := fnd_word hp
  have hl : ((row.drop p).takeWhile (· != 32)).length ≤ row.length - p := by
    have := congrArg List.length (tw_dw (row.drop p))
    rw [List.length_append, List.length_drop] at this
    omega
  have hdr : row.drop (p + ((row.drop p).takeWhile (· != 32)).length) = (row.drop p).dropWhile (· != 32) := by
    rw [← List.drop_drop]
    conv => lhs; rw [← tw_dw (row.drop p)]
    have : ∀ (a b : List Nat), (a ++ b).drop a.length = b := fun a b => List.drop_left
    rw [tw_dw]
    have h := tw_dw (row.drop p)
    conv => lhs; arg 2; rw [← h]
    rw [this]
  have htk : ((row.drop p).take ((row.drop p).takeWhile (· != 32)).length) = (row.drop p).takeWhile (· != 32) := by
    have h := tw_dw (row.drop p)
    conv => lhs; arg 2; rw [← h]
    rw [List.take_left]
  generalize hwd : (row.drop p).takeWhile (· != 32) = w at hw hl hdr htk
  let ρ0 : Ro := [some (false, .str row), some (false, .int p), none, none]
  let ρ1 : Ro := [some (false, .str row), some (false, .int p), some (false, .int (fnd 32 row p)), none]
  let ρ2 : Ro := [some (false, .str row), some (false, .int p), some (false, .int ((p + w.length : Nat) : Int)), none]
  let ρ3 : Ro := [some (false, .str row), some (false, .int p), some (false, .int ((p + w.length : Nat) : Int)), some (false, .str w)]
  have b1 : sSet 2 (eFind (eVar 0) (eC (.str [32])) (eVar 1)) ρ0 = .nx ρ1 := by
    refine sSet_c (d := .int (fnd 32 row p)) ?_
    show gFind (.str row) (.str [32]) (.int p) = _
    show (if 0 ≤ (p : Int) ∧ (p : Int) ≤ row.length then R.ok (Kd.cl, D.int (fnd 32 row (p : Int).toNat)) else .bad) = _
    rw [if_pos ⟨by omega, by omega⟩, Int.toNat_natCast]
  have b2 : sSet 2 (eIf (t2 gLt (eVar 2) (eC (.int 0))) (op1 gLen (eVar 0)) (eVar 2)) ρ1 = .nx ρ2 := by
    refine sSet_c (d := .int ((p + w.length : Nat) : Int)) ?_
    have t : t2 gLt (eVar 2) (eC (.int 0)) ρ1 = .ok (decide (fnd 32 row p < 0)) := t2_ok (k1 := .cl) (x := .int (fnd 32 row p)) (k2 := .cl) (y := .int 0) rfl rfl rfl
    by_cases q : fnd 32 row p < 0
    · rw [decide_eq_true q] at t
      rw [if_pos q] at hw
      rw [eIf_t t (lenS (k := .cl) (x := row) rfl (by omega)), hw]
    · rw [decide_eq_false q] at t
      rw [if_neg q] at hw
      rw [eIf_f t rfl]
      show R.ok (Kd.cl, D.int (fnd 32 row p)) = _
      rw [hw]
  have b3 : sSet 3 (eSl (eVar 0) (oSome (eVar 1)) (oSome (eVar 2))) ρ2 = .nx ρ3 := by
    refine sSet_c (d := .str w) ?_
    rw [slMid (k := .cl) (x := row) (i := p) (j := p + w.length) (k2 := .cl) (k3 := .cl) rfl rfl rfl (by omega), Nat.add_sub_cancel_left, htk]
  have a1 : op2 gNe (eVar 3) (eC (.str [])) ρ3 = .ok (.cl, .bl (!(w == []))) := op2_ok (k1 := .cl) (x := .str w) (k2 := .cl) (y := .str []) rfl rfl gNe_s
  have a2 : op2 (gIn true) (eC (.str [34])) (eVar 3) ρ3 = .ok (.cl, .bl (!decide (34 ∈ w))) := op2_ok (k1 := .cl) (x := .str [34]) (k2 := .cl) (y := .str w) rfl rfl rfl
  split
  · rename_i hbad
    have dm : eAnd (op2 gNe (eVar 3) (eC (.str []))) (op2 (gIn true) (eC (.str [34])) (eVar 3)) ρ3 = .ok (.cl, .bl false) := by
      by_cases q : w = []
      · rw [q] at a1
        exact eAnd_f a1
      · have hm : 34 ∈ w := hbad.resolve_left q
        rw [beq_false_of_ne q] at a1
        rw [decide_eq_true hm] at a2
        exact eAnd_t a1 a2
    refine fn_ok (ρ0 := ρ0) (s := .exc IT ρ3) rfl rfl ?_ rfl
    exact sSeq_n b1 (sSeq_n b2 (sSeq_n b3 (sSeq_e (dem_exc dm))))
  · rename_i hgood
    have q1 : w ≠ [] := fun z => hgood (.inl z)
    have q2 : 34 ∉ w := fun z => hgood (.inr z)
    have dm : eAnd (op2 gNe (eVar 3) (eC (.str []))) (op2 (gIn true) (eC (.str [34])) (eVar 3)) ρ3 = .ok (.cl, .bl true) := by
      rw [beq_false_of_ne q1] at a1
      rw [decide_eq_false q2] at a2
      exact eAnd_t a1 a2
    refine ⟨p + w.length, fn_ok (ρ0 := ρ0) (s := .rt (.cl, .tup [.str w, .int ((p + w.length : Nat) : Int)])) rfl rfl ?_ rfl, hdr, by omega⟩
    exact sSeq_n b1 (sSeq_n b2 (sSeq_n b3 (sSeq_n (dem_ok dm) (sRet_ok (disp_ok (aCons_ok rfl (aCons_ok rfl rfl)) rfl (by show 2 ≤ 16777216; decide) rfl)))))

/-! ### the next word -/
def wE (row : List Nat) (s1 : Sl) (fs : List D) (p : Nat) (w : Sl) : Ro := [some (false, .str row), s1, some (true, .lst fs), some (false, .int p), w]
def oneE : EF := eIf (t2 gEq (eSl (eVar 0) (oSome (eVar 3)) (oSome (op2 gAdd (eVar 3) (eC (.int 1))))) (eC (.str [34]))) (eCall (F_quoted_from) 2 (aCons (eVar 0) (aCons (eVar 3) (aNil)))) (eCall (F_plain_from) 2 (aCons (eVar 0) (aCons (eVar 3) (aNil))))
theorem one_q (l : List Nat) : one (34 :: l) = (qt l).map fun p => (D.tup [.str TEXT, .str p.1], p.2) := by
  unfold one
  rw [if_pos (show (34 :: l).head? = some 34 from rfl)]
  rfl
theorem one_p {l : List Nat} (h : l.head? ≠ some 34) : one l = if l.takeWhile (· != 32) = [] ∨ 34 ∈ l.takeWhile (· != 32) then none else some (.str (l.takeWhile (· != 32)), l.dropWhile (· != 32)) := by
  unfold one
  rw [if_neg h]
theorem e_one {row : List Nat} {p : Nat} (hz : row.length ≤ 40000) (hp : p ≤ row.length) (s1 : Sl) (fs : List D) (w : Sl) : match one (row.drop p) with
    | some (d, r) => ∃ q : Nat, oneE (wE row s1 fs p w) = .ok (.cl, .tup [d, .int q]) ∧ row.drop q = r ∧ q ≤ row.length
    | none => oneE (wE row s1 fs p w) = .exc IT := by
  let ρ := wE row s1 fs p w
  have v0 : eVar 0 ρ = .ok (.cl, .str row) := rfl
  have v3 : eVar 3 ρ = .ok (.cl, .int p) := rfl
  have sl : eSl (eVar 0) (oSome (eVar 3)) (oSome (op2 gAdd (eVar 3) (eC (.int 1)))) ρ = .ok (.cl, .str ((row.drop p).take 1)) := by
    have := slMid v0 v3 (addN v3 (cI 1 ρ)) (by omega)
    rwa [Nat.add_sub_cancel_left] at this
  have t := t2_ok (g := gEq) (k2 := .cl) (y := .str [34]) (fb := eC (.str [34])) sl rfl gEq_s
  cases hd : row.drop p with
  | nil =>
    rw [hd, show ([] : List Nat).take 1 = [] from rfl] at t
    have pl := e_plain hz hp
    rw [hd, if_pos (.inl rfl)] at pl
    rw [one_p (show ([] : List Nat).head? ≠ some 34 from fun z => nomatch z), if_pos (.inl rfl)]
    exact (eIf_f t rfl).trans (eCall_exc (aCons_ok v0 (aCons_ok v3 rfl)) rfl rfl pl)
  | cons c l =>
    rw [hd, show (c :: l).take 1 = [c] from rfl] at t
    by_cases c34 : c = 34
    · subst c34
      have qd := e_quoted hz hd
      rw [one_q]
      cases e : qt l with
      | none =>
        rw [e] at qd
        exact (eIf_t t rfl).trans (eCall_exc (aCons_ok v0 (aCons_ok v3 rfl)) rfl rfl qd)
      | some z =>
        obtain ⟨tt, r⟩ := z
        rw [e] at qd
        obtain ⟨q, h1, h2, h3⟩ := qd
        exact ⟨q, (eIf_t t rfl).trans (eCall_ok (aCons_ok v0 (aCons_ok v3 rfl)) rfl rfl h1 rfl), h2, h3⟩
    · rw [beq_false_of_ne fun z => c34 (List.cons.inj z).1] at t
      have pl := e_plain hz hp
      have hn : ¬ (c :: l).head? = some 34 := fun z => c34 (Option.some.inj z)
      rw [one_p hn]
      rw [hd] at pl
      by_cases bad : (c :: l).takeWhile (· != 32) = [] ∨ 34 ∈ (c :: l).takeWhile (· != 32)
      · rw [if_pos bad] at pl ⊢
        exact (eIf_f t rfl).trans (eCall_exc (aCons_ok v0 (aCons_ok v3 rfl)) rfl rfl pl)
      · rw [if_neg bad] at pl ⊢
        obtain ⟨q, h1, h2, h3⟩ := pl
        exact ⟨q, (eIf_f t rfl).trans (eCall_ok (aCons_ok v0 (aCons_ok v3 rfl)) rfl rfl h1 rfl), h2, h3⟩
end PL
set_option Elab.async false
set_option linter.all false
set_option maxRecDepth 100000
set_option maxHeartbeats 4000000
/-! Md55: the words of a row, the program's loop. -/
namespace PL
open PySem PySem.Spec L2

section
variable {ρ : Ro} {fa : EF}
theorem sAsg_ok {g : GF} {d : D} {ρ1 : Ro} (h : fa ρ = .ok (.cl, d)) (hg : g d ρ = some ρ1) : sAsg fa g ρ = .nx ρ1 := by
  unfold sAsg
  rw [h]
  show (match g d ρ with | some ρ' => SRes.nx ρ' | none => .bad) = _
  rw [hg]
theorem sAsg_exc {g : GF} {c : Str} (h : fa ρ = .exc c) : sAsg fa g ρ = .exc c ρ := by
  unfold sAsg
  rw [h]
  rfl
end
theorem one_len {l r : List Nat} {w : D} (h : one l = some (w, r)) : r.length < l.length := by
  cases l with
  | nil => rw [one_p (show ([] : List Nat).head? ≠ some 34 from fun z => nomatch z), if_pos (.inl rfl)] at h; cases h
  | cons c l =>
    by_cases e : c = 34
    · subst e
      rw [one_q] at h
      cases q : qt l with
      | none => rw [q] at h; cases h
      | some p =>
        rw [q] at h
        have := qt_len l (t := p.1) (r := p.2) q
        cases h
        simp only [List.length_cons]
        omega
    · rw [one_p (show (c :: l).head? ≠ some 34 from fun z => e (Option.some.inj z))] at h
      split at h
      · cases h
      · rename_i hb
        cases h
        have h1 : (c :: l).takeWhile (· != 32) ≠ [] := fun z => hb (.inl z)
        have h2 := congrArg List.length (tw_dw (c :: l))
        rw [List.length_append] at h2
        have h3 := List.length_pos_iff.mpr h1
        omega
def wC : TF := t2 gLe (eVar 3) (op1 gLen (eVar 0))
def wB : SF := (sSeq (sAsg oneE (gTp 2 (gsCons (gNm 4) (gsCons (gNm 3) (gsNil))))) <|
    sSeq (sApp 2 (eVar 4)) <|
    sSeq (sDrop (eCall (F_demand) 1 (aCons (eOr (op2 gEq (eVar 3) (op1 gLen (eVar 0))) (op2 gEq (op2 gIx (eVar 0) (eVar 3)) (eC (.str [32])))) (aNil)))) <|
    sAug 3 (fun i j => i + j) (eC (.int 1)))
theorem w_loop {row : List Nat} (hz : row.length ≤ 40000) (s1 : Sl) : ∀ (n p : Nat) (fs : List D) (w : Sl), (row.drop p).length < n → p ≤ row.length → fs.length + (row.drop p).length ≤ 1000000 →
    match P n (row.drop p) with
    | some ws => ∃ w', whileL wC wB (n + 1) (wE row s1 fs p w) = .nx (wE row s1 (fs ++ ws) (row.length + 1) w')
    | none => ∃ ρ', whileL wC wB (n + 1) (wE row s1 fs p w) = .exc IT ρ'
  | 0, p, fs, w, h, _, _ => absurd h (Nat.not_lt_zero _)
  | n + 1, p, fs, w, h, hp, hf => by
    have tC : ∀ (fs : List D) (p : Nat) (w : Sl), wC (wE row s1 fs p w) = .ok (decide ((p : Int) ≤ (row.length : Int))) := fun fs p w => t2_ok (k1 := .cl) (x := .int p) rfl (lenS (k := .cl) (x := row) rfl (by omega)) rfl
    have c1 : wC (wE row s1 fs p w) = .ok true := by rw [tC, decide_eq_true (by omega)]
    have eo := e_one hz hp s1 fs w
    show match (match one (row.drop p) with | none => none | some (w, r) => match r with | [] => some [w] | c :: r' => if c = 32 then (P n r').map (w :: ·) else none) with | some ws => _ | none => _
    cases e : one (row.drop p) with
    | none =>
      rw [e] at eo
      exact ⟨_, while_e c1 (sSeq_e (sAsg_exc eo))⟩
    | some z =>
      obtain ⟨d, r⟩ := z
      rw [e] at eo
      obtain ⟨q, h1, h2, h3⟩ := eo
      have hlt := one_len e
      have b1 : sAsg oneE (gTp 2 (gsCons (gNm 4) (gsCons (gNm 3) (gsNil)))) (wE row s1 fs p w) = .nx (wE row s1 fs q (some (false, d))) := sAsg_ok h1 rfl
      have b2 : sApp 2 (eVar 4) (wE row s1 fs q (some (false, d))) = .nx (wE row s1 (fs ++ [d]) q (some (false, d))) := sApp_ok (ds := fs) (e := (.cl, d)) rfl rfl rfl (by omega)
      have v3 : eVar 3 (wE row s1 (fs ++ [d]) q (some (false, d))) = .ok (.cl, .int q) := rfl
      have v0 : eVar 0 (wE row s1 (fs ++ [d]) q (some (false, d))) = .ok (.cl, .str row) := rfl
      have o1 := op2_ok (g := gEq) v3 (lenS v0 (by omega)) gEq_i
      have b4 : sAug 3 (fun i j => i + j) (eC (.int 1)) (wE row s1 (fs ++ [d]) q (some (false, d))) = .nx (wE row s1 (fs ++ [d]) (q + 1) (some (false, d))) := sAug_ok (x := q) (k := .cl) (y := 1) rfl rfl
      cases r with
      | nil =>
        have hq : q = row.length := by
          by_cases x : q < row.length
          · rw [List.drop_eq_getElem_cons x] at h2; cases h2
          · omega
        subst hq
        rw [beq_self_eq_true] at o1
        have body := sSeq_n b1 (sSeq_n b2 (sSeq_n (dem_ok (eOr_t (fb := op2 gEq (op2 gIx (eVar 0) (eVar 3)) (eC (.str [32]))) o1)) b4))
        refine ⟨some (false, d), while_n c1 body (while_f ?_)⟩
        rw [tC, decide_eq_false (by omega)]
      | cons c r' =>
        have hq : q < row.length := by
          by_cases x : q < row.length
          · exact x
          · rw [List.drop_eq_nil_of_le (by omega)] at h2; cases h2
        have hc : row[q]? = some c := by
          rw [List.drop_eq_getElem_cons hq] at h2
          rw [List.getElem?_eq_getElem hq, (List.cons.inj h2).1]
        have hr : row.drop (q + 1) = r' := by
          rw [List.drop_eq_getElem_cons hq] at h2
          exact (List.cons.inj h2).2
        rw [beq_false_of_ne (by omega)] at o1
        have o2 : op2 gEq (op2 gIx (eVar 0) (eVar 3)) (eC (.str [32])) (wE row s1 (fs ++ [d]) q (some (false, d))) = .ok (.cl, .bl ([c] == [32])) := op2_ok (k2 := .cl) (y := .str [32]) (ixS v0 v3 (by omega) hc) rfl gEq_s
        by_cases c32 : c = 32
        · subst c32
          rw [beq_self_eq_true] at o2
          have body := sSeq_n b1 (sSeq_n b2 (sSeq_n (dem_ok (eOr_f o1 o2)) b4))
          rw [List.length_cons] at hlt
          have ih := w_loop hz s1 n (q + 1) (fs ++ [d]) (some (false, d)) (by rw [hr]; omega) hq (by rw [hr, List.length_append, List.length_singleton]; omega)
          rw [hr] at ih
          show match (if 32 = 32 then (P n r').map (d :: ·) else none) with | some ws => _ | none => _
          rw [if_pos rfl]
          cases er : P n r' with
          | none =>
            rw [er] at ih
            obtain ⟨ρ', h5⟩ := ih
            exact ⟨ρ', while_n c1 body h5⟩
          | some ws =>
            rw [er] at ih
            obtain ⟨w', h5⟩ := ih
            refine ⟨w', while_n c1 body ?_⟩
            rw [h5, List.append_assoc]
            rfl
        · rw [beq_false_of_ne fun z => c32 (List.cons.inj z).1] at o2
          show match (if c = 32 then (P n r').map (d :: ·) else none) with | some ws => _ | none => _
          rw [if_neg c32]
          exact ⟨_, while_e c1 (sSeq_n b1 (sSeq_n b2 (sSeq_e (dem_exc (eOr_f o1 o2)))))⟩
theorem e_words {row : List Nat} (hz : row.length ≤ 40000) : F_words_of [.str row] = if prn row = true then (match P 99999 row with | some ws => .ok (.fr, .lst ws) | none => .exc IT) else .exc IT := by
  let ρ0 : Ro := [some (false, .str row), none, none, none, none]
  have c1 : op1 (gAllAny true) (lcF (iVal (eVar 0)) [1] (gNm 1) (tYesF) (chn gLe gLe (eC (.str [32])) (eVar 1) (eC (.str [126])))) ρ0 = .ok (.cl, .bl (prn row)) := by
    refine op1_ok (k1 := .fr) (lcF_ok (p := (false, row.map fun c => D.str [c])) (ys := (row.map prc).map D.bl) rfl ?_ ?_) ?_
    · rw [List.length_map]; omega
    · rw [lcA_map (g := fun c => D.bl (prc c)), List.map_map]
      · rfl
      · intro c hc
        refine turn_ok (ρ1 := [some (false, .str row), some (false, .str [c]), none, none, none]) rfl rfl (e := (.cl, .bl (prc c))) ?_ rfl
        exact chn_ok (k1 := .cl) (k2 := .cl) (k4 := .cl) (x := .str [32]) (y := .str [c]) (z := .str [126]) rfl rfl (gLe_1 32 c) rfl (gLe_1 c 126)
    · show (match unB _ with | some ns => _ | none => _) = _
      rw [unB_map]
      show R.ok (Kd.cl, D.bl ((row.map prc).all id)) = _
      rw [all_id]
      rfl
  have body : B_words_of = sSeq (sDrop (eCall (F_demand) 1 (aCons (op1 (gAllAny true) (lcF (iVal (eVar 0)) [1] (gNm 1) (tYesF) (chn gLe gLe (eC (.str [32])) (eVar 1) (eC (.str [126]))))) (aNil)))) (sSeq (sSet 2 (disp (fun ds => (.fr, .lst ds)) (aNil))) (sSeq (sSet 3 (eC (.int 0))) (sSeq (whileL wC wB (99999 + 1)) (sRetV 2)))) := rfl
  by_cases hp : prn row = true
  · rw [if_pos hp]
    rw [hp] at c1
    have lp := w_loop hz none 99999 0 [] none (by rw [List.drop_zero]; omega) (Nat.zero_le _) (by rw [List.drop_zero, List.length_nil]; omega)
    rw [List.drop_zero] at lp
    have b2 : sSet 2 (disp (fun ds => (.fr, .lst ds)) (aNil)) ρ0 = .nx [some (false, .str row), none, some (true, .lst []), none, none] := rfl
    have b3 : sSet 3 (eC (.int 0)) [some (false, .str row), none, some (true, .lst []), none, none] = .nx (wE row none [] 0 none) := rfl
    cases e : P 99999 row with
    | none =>
      rw [e] at lp
      obtain ⟨ρ', h⟩ := lp
      refine fn_ok (ρ0 := ρ0) (s := .exc IT ρ') rfl rfl ?_ rfl
      rw [body]
      exact sSeq_n (dem_ok c1) (sSeq_n b2 (sSeq_n b3 (sSeq_e h)))
    | some ws =>
      rw [e] at lp
      obtain ⟨w', h⟩ := lp
      refine fn_ok (ρ0 := ρ0) (s := .rt (.fr, .lst ws)) rfl rfl ?_ rfl
      rw [body]
      exact sSeq_n (dem_ok c1) (sSeq_n b2 (sSeq_n b3 (sSeq_n h rfl)))
  · rw [if_neg hp]
    rw [Bool.not_eq_true] at hp
    rw [hp] at c1
    refine fn_ok (ρ0 := ρ0) (s := .exc IT ρ0) rfl rfl ?_ rfl
    rw [body]
    exact sSeq_e (dem_exc c1)
end PL
set_option Elab.async false
set_option linter.all false
set_option maxRecDepth 100000
set_option maxHeartbeats 4000000
/-! Me55: the words of a row, as the law reads them. -/
namespace PL
open PySem PySem.Spec L2

abbrev lM : List (List Nat × List Nat) := [([92], [92]), ([34], [34]), ([110], [10])]
def iC : TF := (tAndF (t2 gLt (eVar 5) (op1 gLen (eVar 3))) (t2 gNe (op2 gIx (eVar 3) (eVar 5)) (eC (.str [34]))))
def iB : SF := (sSeq (sSet 1 (op2 gIx (eVar 3) (eVar 5))) <|
    sSeq (sIf (t2 gEq (eVar 1) (eC (.str [92]))) (sSeq (sIf (t2 (gIn true) (eSl (eVar 3) (oSome (op2 gAdd (eVar 5) (eC (.int 1)))) (oSome (op2 gAdd (eVar 5) (eC (.int 2))))) (disp (fun ds => (.fr, .lst ds)) (aCons (eC (.str [92])) (aCons (eC (.str [34])) (aCons (eC (.str [110])) (aNil)))))) (sRet (eC .non)) (sSkip)) <|
    sSeq (sSet 1 (op1 (gKix [([92], [92]), ([34], [34]), ([110], [10])]) (op2 gIx (eVar 3) (op2 gAdd (eVar 5) (eC (.int 1)))))) <|
    sSet 5 (op2 gAdd (eVar 5) (eC (.int 1)))) (sSkip)) <|
    sSeq (sSet 4 (op2 gAdd (eVar 4) (eVar 1))) <|
    sSet 5 (op2 gAdd (eVar 5) (eC (.int 1))))
def oE (row : List Nat) (sg : Sl) (fs : List D) (rest : List Nat) (tx at' : Sl) : Ro := [some (false, .str row), sg, some (true, .lst fs), some (false, .str rest), tx, at']
def iE (row : List Nat) (sg : Sl) (fs : List D) (rest : List Nat) (acc : List Nat) (p : Nat) : Ro := oE row sg fs rest (some (false, .str acc)) (some (false, .int p))
theorem drop_at {m : List Nat} {p c : Nat} {l : List Nat} (h : m.drop p = c :: l) : p < m.length ∧ m[p]? = some c ∧ m.drop (p + 1) = l := by
  have h1 : p < m.length := by
    by_cases q : p < m.length
    · exact q
    · rw [List.drop_eq_nil_of_le (by omega)] at h; cases h
  rw [List.drop_eq_getElem_cons h1] at h
  exact ⟨h1, by rw [List.getElem?_eq_getElem h1, (List.cons.inj h).1], (List.cons.inj h).2⟩
theorem lM_look (d : Nat) : lM.lookup [d] = if isE d = true then some [unE d] else none := by
  unfold isE
  by_cases h1 : d = 92
  · subst h1; decide
  · by_cases h2 : d = 34
    · subst h2; decide
    · by_cases h3 : d = 110
      · subst h3; decide
      · have e1 : ([d] == [92]) = false := beq_false_of_ne fun z => h1 (List.cons.inj z).1
        have e2 : ([d] == [34]) = false := beq_false_of_ne fun z => h2 (List.cons.inj z).1
        have e3 : ([d] == [110]) = false := beq_false_of_ne fun z => h3 (List.cons.inj z).1
        rw [List.lookup_cons, e1, List.lookup_cons, e2, List.lookup_cons, e3, List.lookup_nil, if_neg]
        simp [h1, h2, h3]
theorem lM_in (d : Nat) : ([[92], [34], [110]] : List (List Nat)).contains [d] = isE d := by
  unfold isE
  have e : ∀ k : Nat, ([d] == [k]) = (d == k) := fun k => by
    rw [Bool.eq_iff_iff, beq_iff_eq, beq_iff_eq]
    exact ⟨fun z => (List.cons.inj z).1, fun z => by rw [z]⟩
  simp only [List.contains_cons, List.contains_nil, e, Bool.or_false, Bool.or_assoc]
section
variable {row rest acc : List Nat} {sg : Sl} {fs : List D} {p : Nat}
theorem i_turn (hz : rest.length ≤ 100000) (ha : acc.length ≤ 100000) :
    (rest.drop p = [] → iC (iE row sg fs rest acc p) = .ok false) ∧
    (∀ c l, rest.drop p = c :: l → iC (iE row sg fs rest acc p) = .ok (!(c == 34))) ∧
    (∀ c l, rest.drop p = c :: l → c ≠ 92 → iB (iE row sg fs rest acc p) = .nx (iE row (some (false, .str [c])) fs rest (acc ++ [c]) (p + 1))) ∧
    (∀ d l, rest.drop p = 92 :: d :: l → iB (iE row sg fs rest acc p) = if isE d = true then .nx (iE row (some (false, .str [unE d])) fs rest (acc ++ [unE d]) (p + 2)) else .rt (.cl, .non)) := by
  let ρ := iE row sg fs rest acc p
  have v3 : eVar 3 ρ = .ok (.cl, .str rest) := rfl
  have v5 : eVar 5 ρ = .ok (.cl, .int p) := rfl
  have t1 : t2 gLt (eVar 5) (op1 gLen (eVar 3)) ρ = .ok (decide ((p : Int) < (rest.length : Int))) := t2_ok v5 (lenS v3 (by omega)) rfl
  refine ⟨fun h => ?_, fun c l h => ?_, fun c l h hc => ?_, fun d l h => ?_⟩
  · have : ¬ p < rest.length := fun q => by rw [List.drop_eq_getElem_cons q] at h; cases h
    rw [decide_eq_false (by omega)] at t1
    exact tAnd_f t1
  · obtain ⟨h1, h2, h3⟩ := drop_at h
    rw [decide_eq_true (by omega)] at t1
    refine tAnd_t t1 (t2_ok (k := .cl) (k2 := .cl) (y := .str [34]) (ixS v3 v5 (by omega) h2) rfl ?_)
    rw [gNe_s]
    have : ([c] == [34]) = (c == 34) := by
      rw [Bool.eq_iff_iff, beq_iff_eq, beq_iff_eq]
      exact ⟨fun z => (List.cons.inj z).1, fun z => by rw [z]⟩
    rw [this]
  · obtain ⟨h1, h2, h3⟩ := drop_at h
    let ρ1 := iE row (some (false, .str [c])) fs rest acc p
    have b1 : sSet 1 (op2 gIx (eVar 3) (eVar 5)) ρ = .nx ρ1 := sSet_c (ixS v3 v5 (by omega) h2)
    have t : t2 gEq (eVar 1) (eC (.str [92])) ρ1 = .ok false := t2_ok (k1 := .cl) (x := .str [c]) (k2 := .cl) (y := .str [92]) rfl rfl (by rw [gEq_s, beq_false_of_ne fun z => hc (List.cons.inj z).1])
    have b2 : sSet 4 (op2 gAdd (eVar 4) (eVar 1)) ρ1 = .nx (iE row (some (false, .str [c])) fs rest (acc ++ [c]) p) := sSet_c (addS (k := .cl) (x := acc) (k2 := .cl) (y := [c]) rfl rfl (by rw [List.length_singleton]; omega))
    have b3 : sSet 5 (op2 gAdd (eVar 5) (eC (.int 1))) (iE row (some (false, .str [c])) fs rest (acc ++ [c]) p) = .nx (iE row (some (false, .str [c])) fs rest (acc ++ [c]) (p + 1)) := sSet_c (addN (k := .cl) (x := p) rfl (cI 1 _))
    exact sSeq_n b1 (sSeq_n (ρ1 := ρ1) (sIf_f t rfl) (sSeq_n b2 b3))
  · obtain ⟨h1, h2, h3⟩ := drop_at h
    obtain ⟨g1, g2, g3⟩ := drop_at h3
    let ρ1 := iE row (some (false, .str [92])) fs rest acc p
    have b1 : sSet 1 (op2 gIx (eVar 3) (eVar 5)) ρ = .nx ρ1 := sSet_c (ixS v3 v5 (by omega) h2)
    have t : t2 gEq (eVar 1) (eC (.str [92])) ρ1 = .ok true := t2_ok (k1 := .cl) (x := .str [92]) (k2 := .cl) (y := .str [92]) rfl rfl (by rw [gEq_s]; rfl)
    have w3 : eVar 3 ρ1 = .ok (.cl, .str rest) := rfl
    have w5 : eVar 5 ρ1 = .ok (.cl, .int p) := rfl
    have sl : eSl (eVar 3) (oSome (op2 gAdd (eVar 5) (eC (.int 1)))) (oSome (op2 gAdd (eVar 5) (eC (.int 2)))) ρ1 = .ok (.cl, .str [d]) := by
      have := slMid w3 (addN w5 (cI 1 ρ1)) (addN w5 (cI 2 ρ1)) (by omega)
      rw [h3, show p + 2 - (p + 1) = 1 by omega] at this
      exact this
    have ls : disp (fun ds => (.fr, .lst ds)) (aCons (eC (.str [92])) (aCons (eC (.str [34])) (aCons (eC (.str [110])) (aNil)))) ρ1 = .ok (.fr, .lst (([[92], [34], [110]] : List (List Nat)).map D.str)) := disp_ok (aCons_ok rfl (aCons_ok rfl (aCons_ok rfl rfl))) rfl (by decide) rfl
    have tn : t2 (gIn true) (eSl (eVar 3) (oSome (op2 gAdd (eVar 5) (eC (.int 1)))) (oSome (op2 gAdd (eVar 5) (eC (.int 2))))) (disp (fun ds => (.fr, .lst ds)) (aCons (eC (.str [92])) (aCons (eC (.str [34])) (aCons (eC (.str [110])) (aNil))))) ρ1 = .ok (!isE d) := by
      refine t2_ok (k := .cl) sl ls ?_
      show (match unS (([[92], [34], [110]] : List (List Nat)).map D.str) with | some ns => R.ok (Kd.cl, D.bl (if true then !ns.contains [d] else ns.contains [d])) | none => .bad) = _
      rw [unS_map]
      show R.ok (Kd.cl, D.bl (!([[92], [34], [110]] : List (List Nat)).contains [d])) = _
      rw [lM_in]
    by_cases q : isE d = true
    · rw [if_pos q]
      rw [q] at tn
      have kx : op1 (gKix [([92], [92]), ([34], [34]), ([110], [10])]) (op2 gIx (eVar 3) (op2 gAdd (eVar 5) (eC (.int 1)))) ρ1 = .ok (.cl, .str [unE d]) := by
        refine op1_ok (ixS w3 (addN w5 (cI 1 ρ1)) (by omega) g2) ?_
        show (match lM.lookup [d] with | some y => R.ok (Kd.cl, D.str y) | none => .bad) = _
        rw [lM_look, if_pos q]
      have b2 : sSet 1 (op1 (gKix [([92], [92]), ([34], [34]), ([110], [10])]) (op2 gIx (eVar 3) (op2 gAdd (eVar 5) (eC (.int 1))))) ρ1 = .nx (iE row (some (false, .str [unE d])) fs rest acc p) := sSet_c kx
      have b3 : sSet 5 (op2 gAdd (eVar 5) (eC (.int 1))) (iE row (some (false, .str [unE d])) fs rest acc p) = .nx (iE row (some (false, .str [unE d])) fs rest acc (p + 1)) := sSet_c (addN (k := .cl) (x := p) rfl (cI 1 _))
      have b4 : sSet 4 (op2 gAdd (eVar 4) (eVar 1)) (iE row (some (false, .str [unE d])) fs rest acc (p + 1)) = .nx (iE row (some (false, .str [unE d])) fs rest (acc ++ [unE d]) (p + 1)) := sSet_c (addS (k := .cl) (x := acc) (k2 := .cl) (y := [unE d]) rfl rfl (by rw [List.length_singleton]; omega))
      have b5 : sSet 5 (op2 gAdd (eVar 5) (eC (.int 1))) (iE row (some (false, .str [unE d])) fs rest (acc ++ [unE d]) (p + 1)) = .nx (iE row (some (false, .str [unE d])) fs rest (acc ++ [unE d]) (p + 2)) := sSet_c (addN (k := .cl) (x := p + 1) rfl (cI 1 _))
      exact sSeq_n b1 (sSeq_n (sIf_t t (sSeq_n (ρ1 := ρ1) (sIf_f tn rfl) (sSeq_n b2 b3))) (sSeq_n b4 b5))
    · rw [if_neg q]
      rw [Bool.not_eq_true] at q
      rw [q] at tn
      exact sSeq_n b1 (sSeq_r (sIf_t t (sSeq_r (sIf_t tn rfl))))
end
theorem i_loop {row rest : List Nat} {fs : List D} (hz : rest.length ≤ 50000) : ∀ (n : Nat) (y : List Nat) (p : Nat) (acc : List Nat) (sg : Sl), rest.drop p = y ++ [32] → y.length + 1 < n → acc.length + y.length ≤ 50000 →
    match qt y with
    | some (t, r) => ∃ p' sg', whileL iC iB n (iE row sg fs rest acc p) = .nx (iE row sg' fs rest (acc ++ t) p') ∧ rest.drop p' = 34 :: (r ++ [32])
    | none => whileL iC iB n (iE row sg fs rest acc p) = .rt (.cl, .non) ∨ ∃ p' acc' sg', whileL iC iB n (iE row sg fs rest acc p) = .nx (iE row sg' fs rest acc' p') ∧ rest.drop p' = []
  | 0, y, p, acc, sg, _, h, _ => absurd h (Nat.not_lt_zero _)
  | n + 1, y, p, acc, sg, hd, h, ha => by
    obtain ⟨t0, t1, t2, t3⟩ := i_turn (row := row) (rest := rest) (acc := acc) (sg := sg) (fs := fs) (p := p) (by omega) (by omega)
    cases y with
    | nil =>
      have hd : rest.drop p = [32] := hd
      have h3 := (drop_at hd).2.2
      refine .inr ⟨p + 1, acc ++ [32], some (false, .str [32]), ?_, h3⟩
      obtain ⟨n, rfl⟩ : ∃ k, n = k + 1 := ⟨n - 1, by rw [List.length_nil] at h; omega⟩
      obtain ⟨s0, _, _, _⟩ := i_turn (row := row) (rest := rest) (acc := acc ++ [32]) (sg := some (false, .str [32])) (fs := fs) (p := p + 1) (by omega) (by rw [List.length_append, List.length_singleton]; omega)
      exact while_n ((t1 _ _ hd).trans rfl) (t2 _ _ hd (by decide)) (while_f (s0 h3))
    | cons c l =>
      have hd : rest.drop p = c :: (l ++ [32]) := hd
      have h3 := (drop_at hd).2.2
      rw [List.length_cons] at h ha
      by_cases c34 : c = 34
      · subst c34
        have e : qt (34 :: l) = some ([], l) := by cases l <;> rfl
        rw [e]
        exact ⟨p, sg, by rw [while_f ((t1 _ _ hd).trans rfl), List.append_nil], hd⟩
      · have tt : iC (iE row sg fs rest acc p) = .ok true := by rw [t1 _ _ hd, beq_false_of_ne c34]; rfl
        by_cases c92 : c = 92
        · subst c92
          cases l with
          | nil =>
            have hb := t3 32 [] hd
            rw [if_neg (by decide)] at hb
            exact .inl (while_r tt hb)
          | cons d r =>
            have hb := t3 d (r ++ [32]) (hd.trans rfl)
            have e : qt (92 :: d :: r) = if isE d = true then (qt r).map fun p => (unE d :: p.1, p.2) else none := rfl
            rw [e]
            by_cases q : isE d = true
            · rw [if_pos q] at hb ⊢
              have h4 : rest.drop (p + 2) = r ++ [32] := (drop_at (show rest.drop (p + 1) = d :: (r ++ [32]) from h3)).2.2
              rw [List.length_cons] at h ha
              have ih := i_loop hz n r (p + 2) (acc ++ [unE d]) (some (false, .str [unE d])) (row := row) (fs := fs) h4 (by omega) (by rw [List.length_append, List.length_singleton]; omega)
              cases er : qt r with
              | none =>
                rw [er] at ih
                rcases ih with h1 | ⟨p', acc', sg', h1, h2⟩
                · exact .inl (while_n tt hb h1)
                · exact .inr ⟨p', acc', sg', while_n tt hb h1, h2⟩
              | some z =>
                obtain ⟨t, r'⟩ := z
                rw [er] at ih
                obtain ⟨p', sg', h1, h2⟩ := ih
                refine ⟨p', sg', while_n tt hb ?_, h2⟩
                rw [h1, List.append_assoc]
                rfl
            · rw [if_neg q] at hb ⊢
              exact .inl (while_r tt hb)
        · have hb := t2 c _ hd c92
          have ih := i_loop hz n l (p + 1) (acc ++ [c]) (some (false, .str [c])) (row := row) (fs := fs) h3 (by omega) (by rw [List.length_append, List.length_singleton]; omega)
          have e : qt (c :: l) = (qt l).map fun p => (c :: p.1, p.2) := by
            cases l with
            | nil => show (if c = 34 then some (([] : List Nat), ([] : List Nat)) else none) = _; rw [if_neg c34]; rfl
            | cons d r => show (if c = 34 then _ else if c = 92 then _ else _) = _; rw [if_neg c34, if_neg c92]
          rw [e]
          cases er : qt l with
          | none =>
            rw [er] at ih
            rcases ih with h1 | ⟨p', acc', sg', h1, h2⟩
            · exact .inl (while_n tt hb h1)
            · exact .inr ⟨p', acc', sg', while_n tt hb h1, h2⟩
          | some z =>
            obtain ⟨t, r'⟩ := z
            rw [er] at ih
            obtain ⟨p', sg', h1, h2⟩ := ih
            refine ⟨p', sg', while_n tt hb ?_, h2⟩
            rw [h1, List.append_assoc]
            rfl
end PL
set_option Elab.async false
set_option linter.all false
set_option maxRecDepth 100000
set_option maxHeartbeats 4000000
/-! Mf55: the law's reading of a row, whole. -/
namespace PL
open PySem PySem.Spec L2

def oC : TF := t2 gNe (eVar 3) (eC (.str []))
def oQ : SF := (sSeq (sSet 4 (eC (.str []))) <|
    sSeq (sSet 5 (eC (.int 1))) <|
    sSeq (whileL iC iB 100000) <|
    sSeq (sIf (t2 gNe (eSl (eVar 3) (oSome (op2 gAdd (eVar 5) (eC (.int 1)))) (oSome (op2 gAdd (eVar 5) (eC (.int 2))))) (eC (.str [32]))) (sRet (eC .non)) (sSkip)) <|
    sSeq (sApp 2 (disp (fun ds => (.cl, .tup ds)) (aCons (eC (.str [116, 101, 120, 116])) (aCons (eVar 4) (aNil))))) <|
    sSet 3 (eSl (eVar 3) (oSome (op2 gAdd (eVar 5) (eC (.int 2)))) (oNo)))
def oP : SF := (sSeq (sSet 5 (mth1 gIdx (eVar 3) (eC (.str [32])))) <|
    sSeq (sIf (tOrF (t2 gEq (eVar 5) (eC (.int 0))) (t2 (gIn false) (eC (.str [34])) (eSl (eVar 3) (oSome (eC (.int 0))) (oSome (eVar 5))))) (sRet (eC .non)) (sSkip)) <|
    sSeq (sApp 2 (eSl (eVar 3) (oSome (eC (.int 0))) (oSome (eVar 5)))) <|
    sSet 3 (eSl (eVar 3) (oSome (op2 gAdd (eVar 5) (eC (.int 1)))) (oNo)))
def oB : SF := sIf (t2 gEq (op2 gIx (eVar 3) (eC (.int 0))) (eC (.str [34]))) oQ oP
def nxt : List Nat → Option (List Nat)
  | [] => some []
  | c :: r => if c = 32 then some (r ++ [32]) else none
theorem o_q {row l : List Nat} {sg tx at' : Sl} {fs : List D} (hz : l.length ≤ 40000) (hf : fs.length ≤ 1000000) : match one (34 :: l) with
    | none => oQ (oE row sg fs (34 :: (l ++ [32])) tx at') = .rt (.cl, .non)
    | some (d, r) => match nxt r with
      | none => oQ (oE row sg fs (34 :: (l ++ [32])) tx at') = .rt (.cl, .non)
      | some z => ∃ sg' tx' at'', oQ (oE row sg fs (34 :: (l ++ [32])) tx at') = .nx (oE row sg' (fs ++ [d]) z tx' at'') := by
  generalize hm : 34 :: (l ++ [32]) = m
  have hml : m.length ≤ 40010 := by rw [← hm, List.length_cons, List.length_append, List.length_singleton]; omega
  have h1 : m.drop 1 = l ++ [32] := by rw [← hm]; rfl
  let ρ := oE row sg fs m tx at'
  have b1 : sSet 4 (eC (.str [])) ρ = .nx (oE row sg fs m (some (false, .str [])) at') := rfl
  have b2 : sSet 5 (eC (.int 1)) (oE row sg fs m (some (false, .str [])) at') = .nx (iE row sg fs m [] 1) := rfl
  have lp := i_loop (row := row) (rest := m) (fs := fs) (by omega) 100000 l 1 [] sg h1 (by omega) (by rw [List.length_nil]; omega)
  have sl : ∀ (sg : Sl) (acc : List Nat) (p : Nat), eSl (eVar 3) (oSome (op2 gAdd (eVar 5) (eC (.int 1)))) (oSome (op2 gAdd (eVar 5) (eC (.int 2)))) (iE row sg fs m acc p) = .ok (.cl, .str ((m.drop (p + 1)).take 1)) := fun sg acc p => by
    have := slMid (ρ := iE row sg fs m acc p) (fa := eVar 3) (k := .cl) (x := m) rfl (addN (fa := eVar 5) (k := .cl) (x := p) rfl (cI 1 _)) (addN (fa := eVar 5) (k := .cl) (x := p) rfl (cI 2 _)) (by omega)
    rwa [show p + 2 - (p + 1) = 1 by omega] at this
  have tn : ∀ (sg : Sl) (acc : List Nat) (p : Nat), t2 gNe (eSl (eVar 3) (oSome (op2 gAdd (eVar 5) (eC (.int 1)))) (oSome (op2 gAdd (eVar 5) (eC (.int 2))))) (eC (.str [32])) (iE row sg fs m acc p) = .ok (!((m.drop (p + 1)).take 1 == [32])) := fun sg acc p => t2_ok (k2 := .cl) (y := .str [32]) (sl sg acc p) rfl gNe_s
  rw [one_q]
  cases e : qt l with
  | none =>
    rw [e] at lp
    show oQ ρ = _
    rcases lp with h | ⟨p', acc', sg', h, h2⟩
    · exact sSeq_n b1 (sSeq_n b2 (sSeq_r h))
    · have t := tn sg' acc' p'
      have : m.drop (p' + 1) = [] := by
        have : m.length ≤ p' := by
          by_cases q : p' < m.length
          · rw [List.drop_eq_getElem_cons q] at h2; cases h2
          · omega
        exact List.drop_eq_nil_of_le (by omega)
      rw [this] at t
      exact sSeq_n b1 (sSeq_n b2 (sSeq_n h (sSeq_r (sIf_t t rfl))))
  | some z =>
    obtain ⟨t, r⟩ := z
    rw [e] at lp
    obtain ⟨p', sg', h, h2⟩ := lp
    obtain ⟨k1, k2, k3⟩ := drop_at h2
    have tt := tn sg' ([] ++ t) p'
    rw [k3] at tt
    have tl := qt_len l e
    have app : sApp 2 (disp (fun ds => (.cl, .tup ds)) (aCons (eC (.str [116, 101, 120, 116])) (aCons (eVar 4) (aNil)))) (iE row sg' fs m ([] ++ t) p') = .nx (iE row sg' (fs ++ [.tup [.str TEXT, .str t]]) m ([] ++ t) p') :=
      sApp_ok (ds := fs) (e := (.cl, .tup [.str TEXT, .str t])) rfl (disp_ok (aCons_ok rfl (aCons_ok rfl rfl)) rfl (by show 2 ≤ 16777216; decide) rfl) rfl (by omega)
    have st : sSet 3 (eSl (eVar 3) (oSome (op2 gAdd (eVar 5) (eC (.int 2)))) (oNo)) (iE row sg' (fs ++ [.tup [.str TEXT, .str t]]) m ([] ++ t) p') = .nx (oE row sg' (fs ++ [.tup [.str TEXT, .str t]]) (m.drop (p' + 2)) (some (false, .str ([] ++ t))) (some (false, .int p'))) :=
      sSet_c (slFrom (k := .cl) (x := m) rfl (addN (fa := eVar 5) (k := .cl) (x := p') rfl (cI 2 _)) (by omega))
    show match nxt r with | none => _ | some z => _
    cases r with
    | nil =>
      rw [show ([] ++ [32] : List Nat).take 1 = [32] from rfl, beq_self_eq_true] at tt
      have hd : m.drop (p' + 2) = [] := (drop_at (show m.drop (p' + 1) = 32 :: [] from k3)).2.2
      rw [hd] at st
      exact ⟨_, _, _, sSeq_n b1 (sSeq_n b2 (sSeq_n h (sSeq_n (ρ1 := iE row sg' fs m ([] ++ t) p') (sIf_f tt rfl) (sSeq_n app st))))⟩
    | cons c r =>
      rw [show (c :: r ++ [32] : List Nat).take 1 = [c] from rfl] at tt
      show match (if c = 32 then some (r ++ [32]) else none) with | none => _ | some z => _
      by_cases c32 : c = 32
      · subst c32
        rw [if_pos rfl]
        rw [beq_self_eq_true] at tt
        have hd : m.drop (p' + 2) = r ++ [32] := (drop_at (show m.drop (p' + 1) = 32 :: (r ++ [32]) from k3)).2.2
        rw [hd] at st
        exact ⟨_, _, _, sSeq_n b1 (sSeq_n b2 (sSeq_n h (sSeq_n (ρ1 := iE row sg' fs m ([] ++ t) p') (sIf_f tt rfl) (sSeq_n app st))))⟩
      · rw [if_neg c32]
        rw [beq_false_of_ne fun z => c32 (List.cons.inj z).1] at tt
        exact sSeq_n b1 (sSeq_n b2 (sSeq_n h (sSeq_r (sIf_t tt rfl))))
theorem o_p {row l : List Nat} {sg tx at' : Sl} {fs : List D} (hz : l.length ≤ 40000) (hf : fs.length ≤ 1000000) (hl : l.head? ≠ some 34) : match one l with
    | none => oP (oE row sg fs (l ++ [32]) tx at') = .rt (.cl, .non)
    | some (d, r) => match nxt r with
      | none => False
      | some z => ∃ at'', oP (oE row sg fs (l ++ [32]) tx at') = .nx (oE row sg (fs ++ [d]) z tx at'') := by
  have h1 := tw_free l
  have h2 := tw_dw l
  obtain ⟨z, hz1, hz2⟩ : ∃ z, nxt (l.dropWhile (· != 32)) = some z ∧ l ++ [32] = l.takeWhile (· != 32) ++ 32 :: z := by
    rcases dw_head l with h3 | ⟨r, h3⟩
    · rw [h3] at h2 ⊢
      rw [List.append_nil] at h2
      exact ⟨[], rfl, by rw [h2]⟩
    · rw [h3] at h2 ⊢
      refine ⟨r ++ [32], rfl, ?_⟩
      conv => lhs; rw [← h2]
      rw [List.append_assoc]
      rfl
  rw [one_p hl]
  generalize l.takeWhile (· != 32) = w at h1 hz2
  generalize hm : l ++ [32] = m at hz2
  have hml : m.length ≤ 40010 := by rw [← hm, List.length_append, List.length_singleton]; omega
  have hwl : w.length < m.length := by rw [hz2, List.length_append, List.length_cons]; omega
  let ρ := oE row sg fs m tx at'
  let ρ1 := oE row sg fs m tx (some (false, .int w.length))
  have b1 : sSet 5 (mth1 gIdx (eVar 3) (eC (.str [32]))) ρ = .nx ρ1 := by
    refine sSet_c (d := .int w.length) (mth1_ok (k1 := .cl) (a := m) (k2 := .cl) (y := .str [32]) rfl rfl ?_)
    show (match fndL 32 0 m with | some k => R.ok (Kd.cl, D.int (k : Nat)) | none => .bad) = _
    rw [hz2, fndL_app h1, Nat.zero_add]
  have v3 : eVar 3 ρ1 = .ok (.cl, .str m) := rfl
  have v5 : eVar 5 ρ1 = .ok (.cl, .int w.length) := rfl
  have tk : eSl (eVar 3) (oSome (eC (.int 0))) (oSome (eVar 5)) ρ1 = .ok (.cl, .str w) := by
    rw [slTo v3 v5 (by omega), hz2, List.take_left]
  have t1 : t2 gEq (eVar 5) (eC (.int 0)) ρ1 = .ok ((w.length : Int) == 0) := t2_ok (k2 := .cl) (y := .int 0) v5 rfl gEq_i
  have t2' : t2 (gIn false) (eC (.str [34])) (eSl (eVar 3) (oSome (eC (.int 0))) (oSome (eVar 5))) ρ1 = .ok (decide (34 ∈ w)) := t2_ok (k := .cl) (k1 := .cl) (x := .str [34]) rfl tk rfl
  by_cases bad : w = [] ∨ 34 ∈ w
  · rw [if_pos bad]
    have tt : tOrF (t2 gEq (eVar 5) (eC (.int 0))) (t2 (gIn false) (eC (.str [34])) (eSl (eVar 3) (oSome (eC (.int 0))) (oSome (eVar 5)))) ρ1 = .ok true := by
      by_cases q : w = []
      · rw [q] at t1
        exact tOr_t t1
      · have hl0 : ((w.length : Int) == 0) = false := by
          have := List.length_pos_iff.mpr q
          exact beq_false_of_ne (by omega)
        rw [hl0] at t1
        rw [decide_eq_true (bad.resolve_left q)] at t2'
        exact tOr_f t1 t2'
    exact sSeq_n b1 (sSeq_r (sIf_t tt rfl))
  · rw [if_neg bad]
    have q1 : w ≠ [] := fun z => bad (.inl z)
    have hl0 : ((w.length : Int) == 0) = false := by
      have := List.length_pos_iff.mpr q1
      exact beq_false_of_ne (by omega)
    rw [hl0] at t1
    rw [decide_eq_false fun z => bad (.inr z)] at t2'
    show match nxt (l.dropWhile (· != 32)) with | none => False | some z => _
    rw [hz1]
    have app : sApp 2 (eSl (eVar 3) (oSome (eC (.int 0))) (oSome (eVar 5))) ρ1 = .nx (oE row sg (fs ++ [.str w]) m tx (some (false, .int w.length))) := sApp_ok (ds := fs) (e := (.cl, .str w)) rfl tk rfl (by omega)
    have st : sSet 3 (eSl (eVar 3) (oSome (op2 gAdd (eVar 5) (eC (.int 1)))) (oNo)) (oE row sg (fs ++ [.str w]) m tx (some (false, .int w.length))) = .nx (oE row sg (fs ++ [.str w]) z tx (some (false, .int w.length))) := by
      refine sSet_c (d := .str z) ?_
      have q := slFrom (ρ := oE row sg (fs ++ [.str w]) m tx (some (false, .int w.length))) (fa := eVar 3) (k := .cl) (x := m) rfl (addN (fa := eVar 5) (fl := eC (.int 1)) (k := .cl) (k2 := .cl) (x := w.length) (y := 1) rfl rfl) (by omega)
      rw [hz2, ← List.drop_drop, List.drop_left, ← hz2] at q
      exact q
    exact ⟨_, sSeq_n b1 (sSeq_n (ρ1 := ρ1) (sIf_f (tOr_f t1 t2') rfl) (sSeq_n app st))⟩
theorem o_turn {row l : List Nat} {sg tx at' : Sl} {fs : List D} (hz : l.length ≤ 40000) (hf : fs.length ≤ 1000000) : match one l with
    | none => oB (oE row sg fs (l ++ [32]) tx at') = .rt (.cl, .non)
    | some (d, r) => match nxt r with
      | none => oB (oE row sg fs (l ++ [32]) tx at') = .rt (.cl, .non)
      | some z => ∃ sg' tx' at'', oB (oE row sg fs (l ++ [32]) tx at') = .nx (oE row sg' (fs ++ [d]) z tx' at'') := by
  have t0 : ∀ (c : Nat) (m : List Nat), m.length ≤ 40010 → m[0]? = some c → t2 gEq (op2 gIx (eVar 3) (eC (.int 0))) (eC (.str [34])) (oE row sg fs m tx at') = .ok ([c] == [34]) := fun c m hm h => t2_ok (k2 := .cl) (y := .str [34]) (ixS (k := .cl) (x := m) rfl (cI 0 _) (by omega) h) rfl gEq_s
  have hml : (l ++ [32]).length ≤ 40010 := by rw [List.length_append, List.length_singleton]; omega
  by_cases h : l.head? = some 34
  · obtain ⟨l', rfl⟩ : ∃ l', l = 34 :: l' := by
      cases l with
      | nil => cases h
      | cons c l' => exact ⟨l', by rw [Option.some.inj h]⟩
    have t := t0 34 (34 :: l' ++ [32]) hml rfl
    rw [List.length_cons] at hz
    have q := o_q (row := row) (l := l') (sg := sg) (tx := tx) (at' := at') (fs := fs) (by omega) hf
    cases e : one (34 :: l') with
    | none =>
      rw [e] at q
      exact (sIf_t t q : oB (oE row sg fs (34 :: l' ++ [32]) tx at') = _)
    | some z =>
      obtain ⟨d, r⟩ := z
      rw [e] at q
      show match nxt r with | none => _ | some z => _
      have q : match nxt r with | none => oQ (oE row sg fs (34 :: (l' ++ [32])) tx at') = .rt (.cl, .non) | some z => ∃ sg' tx' at'', oQ (oE row sg fs (34 :: (l' ++ [32])) tx at') = .nx (oE row sg' (fs ++ [d]) z tx' at'') := q
      cases en : nxt r with
      | none => rw [en] at q; exact sIf_t t q
      | some z =>
        rw [en] at q
        obtain ⟨a1, a2, a3, h1⟩ := q
        exact ⟨a1, a2, a3, sIf_t t h1⟩
  · obtain ⟨c, hc, hc2⟩ : ∃ c, (l ++ [32])[0]? = some c ∧ c ≠ 34 := by
      cases l with
      | nil => exact ⟨32, rfl, by decide⟩
      | cons c l' => exact ⟨c, rfl, fun z => h (by rw [z]; rfl)⟩
    have t := t0 c _ hml hc
    rw [beq_false_of_ne fun z => hc2 (List.cons.inj z).1] at t
    have q := o_p (row := row) (l := l) (sg := sg) (tx := tx) (at' := at') (fs := fs) hz hf h
    cases e : one l with
    | none =>
      rw [e] at q
      exact (sIf_f t q : oB (oE row sg fs (l ++ [32]) tx at') = _)
    | some z =>
      obtain ⟨d, r⟩ := z
      rw [e] at q
      show match nxt r with | none => _ | some z => _
      have q : match nxt r with | none => False | some z => ∃ at'', oP (oE row sg fs (l ++ [32]) tx at') = .nx (oE row sg (fs ++ [d]) z tx at'') := q
      cases en : nxt r with
      | none => rw [en] at q; exact q.elim
      | some z =>
        rw [en] at q
        obtain ⟨a3, h1⟩ := q
        exact ⟨sg, tx, a3, sIf_f t h1⟩
theorem o_loop (row : List Nat) : ∀ (n : Nat) (l : List Nat) (fs : List D) (sg tx at' : Sl), l.length < n → l.length ≤ 40000 → fs.length + l.length ≤ 1000000 →
    match P n l with
    | some ws => ∃ sg' tx' at'', whileL oC oB (n + 1) (oE row sg fs (l ++ [32]) tx at') = .nx (oE row sg' (fs ++ ws) [] tx' at'')
    | none => whileL oC oB (n + 1) (oE row sg fs (l ++ [32]) tx at') = .rt (.cl, .non)
  | 0, l, fs, sg, tx, at', h, _, _ => absurd h (Nat.not_lt_zero _)
  | n + 1, l, fs, sg, tx, at', h, hz, hf => by
    have tC : ∀ (fs : List D) (m : List Nat) (sg tx at' : Sl), oC (oE row sg fs m tx at') = .ok (!(m == [])) := fun fs m sg tx at' => t2_ok (k1 := .cl) (x := .str m) (k2 := .cl) (y := .str []) rfl rfl gNe_s
    have c1 : oC (oE row sg fs (l ++ [32]) tx at') = .ok true := by
      rw [tC, beq_false_of_ne fun z => by have := congrArg List.length z; rw [List.length_append, List.length_singleton] at this; cases this]
      rfl
    have ot := o_turn (row := row) (l := l) (sg := sg) (tx := tx) (at' := at') (fs := fs) hz (by omega)
    show match (match one l with | none => none | some (w, r) => match r with | [] => some [w] | c :: r' => if c = 32 then (P n r').map (w :: ·) else none) with | some ws => _ | none => _
    cases e : one l with
    | none =>
      rw [e] at ot
      exact while_r c1 ot
    | some z =>
      obtain ⟨d, r⟩ := z
      rw [e] at ot
      have hlt := one_len e
      have ot : match nxt r with | none => oB (oE row sg fs (l ++ [32]) tx at') = .rt (.cl, .non) | some z => ∃ sg' tx' at'', oB (oE row sg fs (l ++ [32]) tx at') = .nx (oE row sg' (fs ++ [d]) z tx' at'') := ot
      cases r with
      | nil =>
        obtain ⟨a1, a2, a3, h1⟩ := ot
        exact ⟨a1, a2, a3, while_n c1 h1 (while_f (tC _ _ _ _ _))⟩
      | cons c r' =>
        by_cases c32 : c = 32
        · subst c32
          have ot : ∃ sg' tx' at'', oB (oE row sg fs (l ++ [32]) tx at') = .nx (oE row sg' (fs ++ [d]) (r' ++ [32]) tx' at'') := ot
          obtain ⟨a1, a2, a3, h1⟩ := ot
          rw [List.length_cons] at hlt
          have ih := o_loop row n r' (fs ++ [d]) a1 a2 a3 (by omega) (by omega) (by rw [List.length_append, List.length_singleton]; omega)
          show match (if 32 = 32 then (P n r').map (d :: ·) else none) with | some ws => _ | none => _
          rw [if_pos rfl]
          cases er : P n r' with
          | none => rw [er] at ih; exact while_n c1 h1 ih
          | some ws =>
            rw [er] at ih
            obtain ⟨x1, x2, x3, h2⟩ := ih
            refine ⟨x1, x2, x3, while_n c1 h1 ?_⟩
            rw [h2, List.append_assoc]
            rfl
        · have ot : oB (oE row sg fs (l ++ [32]) tx at') = .rt (.cl, .non) := by
            have : nxt (c :: r') = none := if_neg c32
            rw [this] at ot
            exact ot
          show match (if c = 32 then (P n r').map (d :: ·) else none) with | some ws => _ | none => _
          rw [if_neg c32]
          exact while_r c1 ot
theorem P_nil : P 99999 [] = none := by
  have h : one [] = none := by rw [one_p (show ([] : List Nat).head? ≠ some 34 from fun z => nomatch z), if_pos (.inl rfl)]
  have : ∀ n, P (n + 1) [] = none := fun n => by
    unfold P
    rw [h]
  exact this 99998
theorem e_lwords {row : List Nat} (hz : row.length ≤ 40000) : F__law_words [.str row] = if prn row = true then (match P 99999 row with | some ws => .ok (.fr, .lst ws) | none => .ok (.cl, .non)) else .ok (.cl, .non) := by
  let ρ0 : Ro := [some (false, .str row), none, none, none, none, none]
  have t1 : t2 gEq (eVar 0) (eC (.str [])) ρ0 = .ok (row == []) := t2_ok (k1 := .cl) (x := .str row) (k2 := .cl) (y := .str []) rfl rfl gEq_s
  have t2' : t2 gGt (op1 gLen (lcF (iVal (eVar 0)) [1] (gNm 1) (tOrF (t2 gLt (eVar 1) (eC (.str [32]))) (t2 gGt (eVar 1) (eC (.str [126])))) (eVar 1))) (eC (.int 0)) ρ0 = .ok (!prn row) := by
    rw [← bad_count]
    refine t2_ok (k := .cl) (k1 := .cl) (x := .int ((row.filter fun c => !prc c).length : Nat)) (op1_ok (k1 := .fr) (x := .lst ((row.filter fun c => !prc c).map fun c => D.str [c])) (lcF_ok (p := (false, row.map fun c => D.str [c])) rfl ?_ ?_) ?_) (k2 := .cl) (y := .int 0) rfl rfl
    · rw [List.length_map]; omega
    · refine lcA_sift fun c hc => ?_
      have t : tOrF (t2 gLt (eVar 1) (eC (.str [32]))) (t2 gGt (eVar 1) (eC (.str [126]))) [some (false, .str row), some (false, .str [c]), none, none, none, none] = .ok (!prc c) := by
        rw [← prc_not]
        exact tOr_ok (t2_ok (k1 := .cl) (x := .str [c]) (k2 := .cl) (y := .str [32]) rfl rfl (gLt_1 c 32)) (t2_ok (k1 := .cl) (x := .str [c]) (k2 := .cl) (y := .str [126]) rfl rfl (gGt_1 c 126))
      cases q : prc c with
      | true => rw [q] at t; exact turn_no (ρ1 := _) rfl t
      | false => rw [q] at t; exact turn_ok (ρ1 := _) rfl t (e := (.cl, .str [c])) rfl rfl
    · show R.ok (Kd.cl, D.int (((row.filter fun c => !prc c).map fun c => D.str [c]).length : Nat)) = _
      rw [List.length_map]
  have tt := tOr_ok t1 t2'
  have body : B__law_words = sSeq (sIf (tOrF (t2 gEq (eVar 0) (eC (.str []))) (t2 gGt (op1 gLen (lcF (iVal (eVar 0)) [1] (gNm 1) (tOrF (t2 gLt (eVar 1) (eC (.str [32]))) (t2 gGt (eVar 1) (eC (.str [126])))) (eVar 1))) (eC (.int 0)))) (sRet (eC .non)) (sSkip))
    (sSeq (sSet 2 (disp (fun ds => (.fr, .lst ds)) (aNil))) (sSeq (sSet 3 (op2 gAdd (eVar 0) (eC (.str [32])))) (sSeq (whileL oC oB (99999 + 1)) (sRetV 2)))) := rfl
  by_cases hb : row = [] ∨ prn row = false
  · have hr : (row == [] || !prn row) = true := by
      rcases hb with h | h
      · rw [h]; rfl
      · rw [h, Bool.not_false, Bool.or_true]
    rw [hr] at tt
    have hv : (if prn row = true then (match P 99999 row with | some ws => .ok (.fr, .lst ws) | none => .ok (.cl, .non)) else .ok (.cl, .non) : R Ev) = .ok (.cl, .non) := by
      rcases hb with h | h
      · rw [h, P_nil]
        split <;> rfl
      · rw [h, if_neg Bool.false_ne_true]
    rw [hv]
    refine fn_ok (ρ0 := ρ0) (s := .rt (.cl, .non)) rfl rfl ?_ rfl
    rw [body]
    exact sSeq_r (sIf_t tt rfl)
  · have h1 : row ≠ [] := fun z => hb (.inl z)
    have h2 : prn row = true := by
      cases e : prn row with
      | true => rfl
      | false => exact absurd (.inr e) hb
    rw [h2, beq_false_of_ne h1] at tt
    rw [if_pos h2]
    have lp := o_loop row 99999 row [] none none none (by omega) hz (by rw [List.length_nil]; omega)
    have b1 : sSet 2 (disp (fun ds => (.fr, .lst ds)) (aNil)) ρ0 = .nx [some (false, .str row), none, some (true, .lst []), none, none, none] := rfl
    have b2 : sSet 3 (op2 gAdd (eVar 0) (eC (.str [32]))) [some (false, .str row), none, some (true, .lst []), none, none, none] = .nx (oE row none [] (row ++ [32]) none none) := sSet_c (addS (k := .cl) (x := row) (k2 := .cl) (y := [32]) rfl rfl (by rw [List.length_singleton]; omega))
    cases e : P 99999 row with
    | none =>
      rw [e] at lp
      refine fn_ok (ρ0 := ρ0) (s := .rt (.cl, .non)) rfl rfl ?_ rfl
      rw [body]
      exact sSeq_n (ρ1 := ρ0) (sIf_f tt rfl) (sSeq_n b1 (sSeq_n b2 (sSeq_r lp)))
    | some ws =>
      rw [e] at lp
      obtain ⟨a1, a2, a3, h⟩ := lp
      refine fn_ok (ρ0 := ρ0) (s := .rt (.fr, .lst ws)) rfl rfl ?_ rfl
      rw [body]
      exact sSeq_n (ρ1 := ρ0) (sIf_f tt rfl) (sSeq_n b1 (sSeq_n b2 (sSeq_n h rfl)))
end PL
set_option Elab.async false
set_option linter.all false
set_option maxRecDepth 100000
set_option maxHeartbeats 4000000
/-! Mg55: how words are written, and read again. -/
namespace PL
open PySem PySem.Spec L2

def escC (c : Nat) : List Nat := if c = 92 then [92, 92] else if c = 34 then [92, 34] else if c = 10 then [92, 110] else [c]
def esc (x : List Nat) : List Nat := x.flatMap escC
theorem replF (a : Nat) (z : List Nat) : ∀ x : List Nat, StrLaws.replL [a] z x = x.flatMap fun c => if c = a then z else [c]
  | [] => StrLaws.replL_nil
  | c :: r => by
    by_cases h : c = a
    · subst h
      rw [StrLaws.replL_hit (List.cons_ne_nil _ _) (by rfl), List.flatMap_cons, if_pos rfl]
      show z ++ StrLaws.replL [c] z r = _
      rw [replF c z r]
    · rw [StrLaws.replL_miss (y := [a]) (c := c) (r := r) (fun z => h (List.cons.inj (show [c] = [a] from z)).1), List.flatMap_cons, if_neg h, replF a z r]
      rfl
theorem esc_chain (x : List Nat) : StrLaws.replL [10] [92, 110] (StrLaws.replL [34] [92, 34] (StrLaws.replL [92] [92, 92] x)) = esc x := by
  rw [replF, replF, replF, List.flatMap_assoc, List.flatMap_assoc]
  unfold esc
  congr 1
  funext c
  unfold escC
  by_cases h1 : c = 92
  · subst h1; rfl
  · rw [if_neg h1, if_neg h1]
    by_cases h2 : c = 34
    · subst h2; rfl
    · rw [if_neg h2]
      show (if c = 34 then [92, 34] else [c]).flatMap _ ++ [] = _
      rw [if_neg h2, List.append_nil]
      show (if c = 10 then [92, 110] else [c]) ++ [] = _
      rw [List.append_nil]
theorem repl_len (a : Nat) (u v : Nat) : ∀ x : List Nat, (StrLaws.replL [a] [u, v] x).length ≤ 2 * x.length := fun x => by
  rw [replF]
  induction x with
  | nil => exact Nat.zero_le _
  | cons c r ih =>
    rw [List.flatMap_cons, List.length_append, List.length_cons]
    split <;> simp only [List.length_cons, List.length_nil] <;> omega
theorem e_chain {ρ : Ro} {fa : EF} {k : Kd} {x : List Nat} (h : fa ρ = .ok (k, .str x)) (hx : x.length ≤ 1000) : op1 (gRepl [10] [92, 110]) (op1 (gRepl [34] [92, 34]) (op1 (gRepl [92] [92, 92]) fa)) ρ = .ok (.cl, .str (esc x)) := by
  have l1 := repl_len 92 92 92 x
  have l2 := repl_len 34 92 34 (StrLaws.replL [92] [92, 92] x)
  rw [← esc_chain]
  refine op1_ok (op1_ok (op1_ok h (gRepl_ok ?_)) (gRepl_ok ?_)) (gRepl_ok ?_) <;> simp only [List.length_cons, List.length_nil] <;> omega
theorem esc_len (x : List Nat) : (esc x).length ≤ 2 * x.length := by
  unfold esc
  induction x with
  | nil => exact Nat.zero_le _
  | cons c r ih =>
    rw [List.flatMap_cons, List.length_append, List.length_cons]
    have : (escC c).length ≤ 2 := by
      unfold escC
      split
      · exact Nat.le_refl 2
      · split
        · exact Nat.le_refl 2
        · split
          · exact Nat.le_refl 2
          · exact Nat.le_succ 1
    omega
def quo (x : List Nat) : List Nat := 34 :: (esc x ++ [34])
theorem e_write {x : List Nat} (hx : x.length ≤ 1000) : F_write_text [.str x] = .ok (.cl, .str (quo x)) := by
  have l := esc_len x
  let ρ0 : Ro := [some (false, .str x), none]
  let ρ1 : Ro := [some (false, .str x), some (false, .str (esc x))]
  refine fn_ok (ρ0 := ρ0) (s := .rt (.cl, .str (quo x))) rfl rfl ?_ rfl
  refine sSeq_n (ρ1 := ρ1) (sSet_c (e_chain (k := .cl) rfl hx)) (sSeq_r (sRet_ok ?_))
  have a1 := addS (ρ := ρ1) (fa := eC (.str [34])) (fl := eVar 1) (k := .cl) (x := [34]) (k2 := .cl) (y := esc x) rfl rfl (by simp only [List.length_cons, List.length_nil]; omega)
  exact addS a1 (fl := eC (.str [34])) (k2 := .cl) (y := [34]) rfl (by simp only [List.length_append, List.length_cons, List.length_nil]; omega)
theorem e_lquoted {x : List Nat} (hx : x.length ≤ 1000) : F__law_quoted [.str x] = .ok (.cl, .str (quo x)) := by
  have l := esc_len x
  let ρ0 : Ro := [some (false, .str x)]
  refine fn_ok (ρ0 := ρ0) (s := .rt (.cl, .str (quo x))) rfl rfl ?_ rfl
  refine sSeq_r (sRet_ok ?_)
  have a1 := addS (ρ := ρ0) (fa := eC (.str [34])) (k := .cl) (x := [34]) rfl (e_chain (fa := eVar 0) (k := .cl) rfl hx) (by simp only [List.length_cons, List.length_nil]; omega)
  exact addS a1 (fl := eC (.str [34])) (k2 := .cl) (y := [34]) rfl (by simp only [List.length_append, List.length_cons, List.length_nil]; omega)

/-! ### words -/
def GW (d : D) : Prop := (∃ w, d = .str w ∧ w ≠ [] ∧ 32 ∉ w ∧ 34 ∉ w ∧ prn w = true ∧ w.length ≤ 200) ∨ ∃ x, d = .tup [.str TEXT, .str x] ∧ (∀ c ∈ x, c = 10 ∨ prc c = true) ∧ x.length ≤ 200
def encW : D → List Nat
  | .str w => w
  | .tup [_, .str x] => quo x
  | _ => []
theorem qt_esc (r : List Nat) : ∀ x : List Nat, qt (esc x ++ 34 :: r) = some (x, r)
  | [] => by
    show qt (34 :: r) = _
    cases r <;> rfl
  | c :: x => by
    have ih := qt_esc r x
    have e : esc (c :: x) ++ 34 :: r = escC c ++ (esc x ++ 34 :: r) := by
      unfold esc
      rw [List.flatMap_cons, List.append_assoc]
    rw [e]
    have two : ∀ d, isE d = true → qt (92 :: d :: (esc x ++ 34 :: r)) = some (unE d :: x, r) := fun d hd => by
      show (if isE d = true then (qt (esc x ++ 34 :: r)).map fun p => (unE d :: p.1, p.2) else none) = _
      rw [if_pos hd, ih]
      rfl
    unfold escC
    by_cases h1 : c = 92
    · subst h1; exact two 92 rfl
    · rw [if_neg h1]
      by_cases h2 : c = 34
      · subst h2; exact two 34 rfl
      · rw [if_neg h2]
        by_cases h3 : c = 10
        · subst h3; exact two 110 rfl
        · rw [if_neg h3]
          show qt (c :: (esc x ++ 34 :: r)) = _
          cases q : esc x ++ 34 :: r with
          | nil => exact absurd q (by simp)
          | cons d y =>
            show (if c = 34 then _ else if c = 92 then _ else (qt (d :: y)).map fun p => (c :: p.1, p.2)) = _
            rw [if_neg h2, if_neg h1, ← q, ih]
            rfl
theorem one_enc {d : D} (h : GW d) {r : List Nat} (hr : r = [] ∨ ∃ y, r = 32 :: y) : one (encW d ++ r) = some (d, r) := by
  rcases h with ⟨w, rfl, h1, h2, h3, h4, _⟩ | ⟨x, rfl, _, _⟩
  · show one (w ++ r) = _
    have hh : (w ++ r).head? ≠ some 34 := by
      cases w with
      | nil => exact absurd rfl h1
      | cons c w => exact fun z => h3 (by rw [← Option.some.inj z]; exact List.mem_cons_self)
    have tw : (w ++ r).takeWhile (· != 32) = w := by
      rw [List.takeWhile_append_of_pos fun c hc => by simpa using fun z => h2 (by rw [← z]; exact hc)]
      rcases hr with rfl | ⟨y, rfl⟩
      · simp
      · simp
    have dw : (w ++ r).dropWhile (· != 32) = r := by
      have := tw_dw (w ++ r)
      rw [tw] at this
      exact List.append_cancel_left this
    rw [one_p hh, tw, dw, if_neg]
    rintro (z | z)
    · exact h1 z
    · exact h3 z
  · show one (34 :: ((esc x ++ [34]) ++ r)) = _
    rw [one_q, List.append_assoc]
    show (qt (esc x ++ 34 :: r)).map _ = _
    rw [qt_esc]
    rfl
theorem P_join : ∀ (ws : List D) (n : Nat), ws ≠ [] → ws.length ≤ n → (∀ d ∈ ws, GW d) → P n (TL.joinL [32] (ws.map encW)) = some ws
  | [], _, h, _, _ => absurd rfl h
  | [d], n, _, hn, h => by
    obtain ⟨n, rfl⟩ : ∃ k, n = k + 1 := ⟨n - 1, by simp only [List.length_cons, List.length_nil] at hn; omega⟩
    have := one_enc (h d List.mem_cons_self) (r := []) (.inl rfl)
    rw [List.append_nil] at this
    show (match one (encW d) with | none => none | some (w, r) => (match r with | [] => some [w] | c :: r' => if c = 32 then (P n r').map (w :: ·) else none : Option (List D))) = _
    rw [this]
  | d :: e :: ws, n, _, hn, h => by
    obtain ⟨n, rfl⟩ : ∃ k, n = k + 1 := ⟨n - 1, by rw [List.length_cons] at hn; omega⟩
    have := one_enc (h d List.mem_cons_self) (r := 32 :: TL.joinL [32] ((e :: ws).map encW)) (.inr ⟨_, rfl⟩)
    have ih := P_join (e :: ws) n (List.cons_ne_nil _ _) (by rw [List.length_cons] at hn; omega) fun x hx => h x (List.mem_cons_of_mem _ hx)
    show (match one (encW d ++ ([32] ++ TL.joinL [32] ((e :: ws).map encW))) with | none => none | some (w, r) => (match r with | [] => some [w] | c :: r' => if c = 32 then (P n r').map (w :: ·) else none : Option (List D))) = _
    rw [show [32] ++ TL.joinL [32] ((e :: ws).map encW) = 32 :: TL.joinL [32] ((e :: ws).map encW) from rfl, this]
    show (if 32 = 32 then (P n (TL.joinL [32] ((e :: ws).map encW))).map (d :: ·) else none) = _
    rw [if_pos rfl, ih]
    rfl
theorem esc_prn {x : List Nat} (h : ∀ c ∈ x, c = 10 ∨ prc c = true) : prn (esc x) = true := by
  refine List.all_eq_true.mpr fun c hc => ?_
  obtain ⟨b, hb, hc⟩ := List.mem_flatMap.mp hc
  unfold escC at hc
  have two : ∀ u v : Nat, prc u = true → prc v = true → c ∈ [u, v] → prc c = true := fun u v hu hv hc => by
    rcases List.mem_cons.mp hc with z | z
    · rw [z]; exact hu
    · rw [List.mem_singleton.mp z]; exact hv
  split at hc
  · exact two 92 92 (by decide) (by decide) hc
  · split at hc
    · exact two 92 34 (by decide) (by decide) hc
    · split at hc
      · exact two 92 110 (by decide) (by decide) hc
      · rename_i n1 n2 n3
        rw [List.mem_singleton.mp hc]
        exact (h b hb).resolve_left n3
theorem enc_prn {d : D} (h : GW d) : prn (encW d) = true ∧ (encW d).length ≤ 402 := by
  rcases h with ⟨w, rfl, h1, h2, h3, h4, h5⟩ | ⟨x, rfl, h1, h2⟩
  · exact ⟨h4, by show w.length ≤ 402; omega⟩
  · have l := esc_len x
    have p := esc_prn h1
    refine ⟨?_, by show (34 :: (esc x ++ [34])).length ≤ 402; simp only [List.length_cons, List.length_append, List.length_nil]; omega⟩
    show (34 :: (esc x ++ [34])).all prc = true
    unfold prn at p
    rw [List.all_cons, List.all_append, p]
    decide
theorem join_prn : ∀ (xs : List (List Nat)), (∀ x ∈ xs, prn x = true ∧ x.length ≤ 402) → prn (TL.joinL [32] xs) = true ∧ (TL.joinL [32] xs).length ≤ xs.length * 403 ∧ (xs.map List.length).sum ≤ xs.length * 402
  | [], _ => ⟨rfl, Nat.zero_le _, Nat.zero_le _⟩
  | [x], h => by
    have := h x List.mem_cons_self
    exact ⟨this.1, by show x.length ≤ 1 * 403; omega, by simp; omega⟩
  | x :: y :: r, h => by
    have h1 := h x List.mem_cons_self
    obtain ⟨i1, i2, i3⟩ := join_prn (y :: r) fun z hz => h z (List.mem_cons_of_mem _ hz)
    refine ⟨?_, ?_, ?_⟩
    · show (x ++ ([32] ++ TL.joinL [32] (y :: r))).all prc = true
      unfold prn at h1 i1
      rw [List.all_append, List.all_append, h1.1, i1]
      decide
    · show (x ++ ([32] ++ TL.joinL [32] (y :: r))).length ≤ (y :: r).length.succ * 403
      rw [List.length_append, List.length_append, List.length_singleton, Nat.succ_mul]
      omega
    · rw [List.map_cons, List.sum_cons, List.length_cons (as := y :: r), Nat.succ_mul]
      omega
def rowW (ws : List D) : List Nat := TL.joinL [32] (ws.map encW)
theorem rowW_ok {ws : List D} (h : ∀ d ∈ ws, GW d) (hn : ws.length ≤ 20) : prn (rowW ws) = true ∧ (rowW ws).length ≤ 8060 ∧ joinSize [32] (ws.map encW) ≤ 16777216 := by
  obtain ⟨h1, h2, h3⟩ := join_prn (ws.map encW) fun x hx => by
    obtain ⟨d, hd, e⟩ := List.mem_map.mp hx
    rw [← e]; exact enc_prn (h d hd)
  rw [List.length_map] at h2 h3
  have h4 : ws.length * 403 ≤ 20 * 403 := Nat.mul_le_mul_right _ hn
  have h5 : ws.length * 402 ≤ 20 * 402 := Nat.mul_le_mul_right _ hn
  refine ⟨h1, by show (TL.joinL [32] (ws.map encW)).length ≤ 8060; omega, ?_⟩
  unfold joinSize
  simp only [List.length_map, List.length_cons, List.length_nil]
  omega
theorem e_rowof {ws : List D} (h : ∀ d ∈ ws, GW d) (hn : ws.length ≤ 20) : F_row_of [.lst ws] = .ok (.cl, .str (rowW ws)) := by
  obtain ⟨h1, h2, h3⟩ := rowW_ok h hn
  let ρ0 : Ro := [some (false, .lst ws), none]
  refine fn_ok (ρ0 := ρ0) (s := .rt (.cl, .str (rowW ws))) rfl rfl ?_ rfl
  refine sRet_ok (mth1_ok (k1 := .cl) (a := [32]) (k2 := .fr) (y := .lst ((ws.map encW).map D.str)) rfl (lcF_ok (p := (false, ws)) rfl ?_ ?_) ?_)
  · show ws.length ≤ 16777216; omega
  · rw [lcA_all (g := fun d => D.str (encW d)), List.map_map]
    · rfl
    · intro d hd
      refine turn_ok (ρ1 := [some (false, .lst ws), some (false, d)]) rfl rfl (e := (.cl, .str (encW d))) ?_ rfl
      rcases h d hd with ⟨w, rfl, _⟩ | ⟨x, rfl, _, hx⟩
      · exact eIf_t (isi_ok (fa := eVar 1) (k := .cl) (d := .str w) rfl rfl) rfl
      · refine eIf_f (isi_ok (fa := eVar 1) (k := .cl) (d := .tup [.str TEXT, .str x]) rfl rfl) (eCall_ok (aCons_ok (op2_ok (k1 := .cl) (x := .tup [.str TEXT, .str x]) rfl (cI 1 _) (gIx_t (i := 1) rfl)) rfl) rfl rfl (e_write (by omega)) rfl)
  · rw [gJoin_l h3]
    rfl
def rB : SF := (sIf (tVal (eIsi "str" (eVar 2))) (sApp 1 (eVar 2)) (sApp 1 (eCall (F__law_quoted) 1 (aCons (op2 gIx (eVar 2) (eC (.int 1))) (aNil)))))
theorem r_loop (ws0 : List D) : ∀ (ws : List D) (fs : List (List Nat)) (a : Sl), (∀ d ∈ ws, GW d) → fs.length + ws.length ≤ 1000 → ∃ b, forL (gNm 2) rB ws [some (false, .lst ws0), some (true, .lst (fs.map D.str)), a] = .nx [some (false, .lst ws0), some (true, .lst ((fs ++ ws.map encW).map D.str)), b]
  | [], fs, a, _, _ => ⟨a, by rw [List.map_nil, List.append_nil]; rfl⟩
  | d :: ws, fs, a, h, hl => by
    rw [List.length_cons] at hl
    obtain ⟨b, ih⟩ := r_loop ws0 ws (fs ++ [encW d]) (some (false, d)) (fun x hx => h x (List.mem_cons_of_mem _ hx)) (by rw [List.length_append, List.length_singleton]; omega)
    refine ⟨b, ?_⟩
    rw [List.append_assoc] at ih
    let ρ1 : Ro := [some (false, .lst ws0), some (true, .lst (fs.map D.str)), some (false, d)]
    refine forL_n (ρ1 := ρ1) (ρ2 := [some (false, .lst ws0), some (true, .lst ((fs ++ [encW d]).map D.str)), some (false, d)]) rfl ?_ ih
    have app : ∀ fe : EF, fe ρ1 = .ok (.cl, .str (encW d)) → sApp 1 fe ρ1 = .nx [some (false, .lst ws0), some (true, .lst ((fs ++ [encW d]).map D.str)), some (false, d)] := fun fe he => by
      rw [sApp_ok (ds := fs.map D.str) (e := (.cl, .str (encW d))) rfl he rfl (by rw [List.length_map]; omega)]
      show SRes.nx [some (false, .lst ws0), some (true, .lst (fs.map D.str ++ [D.str (encW d)])), some (false, d)] = _
      rw [List.map_append]
      rfl
    rcases h d List.mem_cons_self with ⟨w, rfl, _⟩ | ⟨x, rfl, _, hx⟩
    · exact sIf_t (isi_ok (fa := eVar 2) (k := .cl) (d := .str w) rfl rfl) (app _ rfl)
    · exact sIf_f (isi_ok (fa := eVar 2) (k := .cl) (d := .tup [.str TEXT, .str x]) rfl rfl) (app _ (eCall_ok (aCons_ok (op2_ok (k1 := .cl) (x := .tup [.str TEXT, .str x]) rfl (cI 1 _) (gIx_t (i := 1) rfl)) rfl) rfl rfl (e_lquoted (by omega)) rfl))
theorem e_lrow {ws : List D} (h : ∀ d ∈ ws, GW d) (hn : ws.length ≤ 20) : F__law_row [.lst ws] = .ok (.cl, .str (rowW ws)) := by
  obtain ⟨h1, h2, h3⟩ := rowW_ok h hn
  obtain ⟨b, hl⟩ := r_loop ws ws [] none h (by rw [List.length_nil]; omega)
  refine fn_ok (ρ0 := [some (false, .lst ws), none, none]) (s := .rt (.cl, .str (rowW ws))) rfl rfl ?_ rfl
  refine sSeq_n (ρ1 := [some (false, .lst ws), some (true, .lst []), none]) rfl (sSeq_n (sFor_ok rfl hl) (sRet_ok (mth1_ok (k1 := .cl) (a := [32]) (k2 := .pk) (y := .lst ((ws.map encW).map D.str)) rfl rfl ?_)))
  rw [gJoin_l h3]
  rfl
end PL
set_option Elab.async false
set_option linter.all false
set_option maxRecDepth 100000
set_option maxHeartbeats 4000000
/-! Mh55: asked and due are the same. -/
namespace PL
open PySem PySem.Spec L2

def WD (d : D) : Prop := (∃ w, d = .str w) ∨ ∃ t, d = .tup [.str TEXT, .str t]
theorem one_WD {l r : List Nat} {d : D} (h : one l = some (d, r)) : WD d := by
  by_cases e : l.head? = some 34
  · obtain ⟨l', rfl⟩ : ∃ l', l = 34 :: l' := by
      cases l with
      | nil => cases e
      | cons c l' => exact ⟨l', by rw [Option.some.inj e]⟩
    rw [one_q] at h
    cases q : qt l' with
    | none => rw [q] at h; cases h
    | some p => rw [q] at h; cases h; exact .inr ⟨_, rfl⟩
  · rw [one_p e] at h
    split at h
    · cases h
    · cases h; exact .inl ⟨_, rfl⟩
theorem P_words : ∀ (n : Nat) (l : List Nat) (ws : List D), P n l = some ws → (∀ d ∈ ws, WD d) ∧ ws.length ≤ n
  | 0, _, _, h => nomatch h
  | n + 1, l, ws, h => by
    have h : (match one l with | none => none | some (w, r) => (match r with | [] => some [w] | c :: r' => if c = 32 then (P n r').map (w :: ·) else none : Option (List D))) = some ws := h
    cases e : one l with
    | none => rw [e] at h; cases h
    | some z =>
      obtain ⟨d, r⟩ := z
      rw [e] at h
      have hd := one_WD e
      cases r with
      | nil =>
        have := Option.some.inj h
        subst this
        exact ⟨fun x hx => by rw [List.mem_singleton.mp hx]; exact hd, by show 1 ≤ n + 1; omega⟩
      | cons c r' =>
        have h : (if c = 32 then (P n r').map (d :: ·) else none) = some ws := h
        split at h
        · cases q : P n r' with
          | none => rw [q] at h; cases h
          | some vs =>
            rw [q] at h
            have := Option.some.inj h
            subst this
            obtain ⟨i1, i2⟩ := P_words n r' vs q
            exact ⟨fun x hx => (List.mem_cons.mp hx).elim (fun z => by rw [z]; exact hd) (i1 x), by show vs.length + 1 ≤ n + 1; omega⟩
        · cases h
section
variable {G : FD}
theorem same_loopT (xs : List D) (h : ∀ d ∈ xs, G [d, d] = .ok (.cl, .bl true)) : ∀ (m i : Nat) (a : Sl), i + m = xs.length →
    ∃ b, forL (gNm 2) (sIf (tNotF (tVal (eCall (G) 2 (aCons (op2 gIx (eVar 0) (eVar 2)) (aCons (op2 gIx (eVar 1) (eVar 2)) (aNil)))))) (sRet (eC (.bl false))) (sSkip)) ((List.range' i m).map fun k : Nat => D.int k) [some (false, .tup xs), some (false, .tup xs), a]
      = .nx [some (false, .tup xs), some (false, .tup xs), b]
  | 0, i, a, _ => ⟨a, rfl⟩
  | m + 1, i, a, hi => by
    have hl : i < xs.length := by omega
    obtain ⟨b, hb⟩ := same_loopT xs h m (i + 1) (some (false, .int i)) (by omega)
    refine ⟨b, ?_⟩
    rw [List.range'_succ, List.map_cons]
    let ρ : Ro := [some (false, .tup xs), some (false, .tup xs), some (false, .int i)]
    have x0 : op2 gIx (eVar 0) (eVar 2) ρ = .ok (.cl, xs[i]) := op2_ok (k1 := .cl) (x := .tup xs) (k2 := .cl) (y := .int i) rfl rfl (gIx_t (List.getElem?_eq_getElem hl))
    have x1 : op2 gIx (eVar 1) (eVar 2) ρ = .ok (.cl, xs[i]) := op2_ok (k1 := .cl) (x := .tup xs) (k2 := .cl) (y := .int i) rfl rfl (gIx_t (List.getElem?_eq_getElem hl))
    refine forL_n (ρ1 := ρ) (ρ2 := ρ) rfl (sIf_f (tNot_ok (b := true) (tVal_b (eCall_ok (aCons_ok x0 (aCons_ok x1 rfl)) rfl rfl (h _ (List.getElem_mem hl)) rfl))) rfl) hb
theorem same_tup (xs : List D) (hx : xs.length < 2 ^ 60) (h : ∀ d ∈ xs, G [d, d] = .ok (.cl, .bl true)) : fnD 3 2 (B__law_same G) [.tup xs, .tup xs] = .ok (.cl, .bl true) := by
  let ρ : Ro := [some (false, .tup xs), some (false, .tup xs), none]
  refine fn_ok (ρ0 := ρ) (s := .rt (.cl, .bl true)) rfl rfl ?_ rfl
  have v0 : eVar 0 ρ = .ok (.cl, .tup xs) := rfl
  have v1 : eVar 1 ρ = .ok (.cl, .tup xs) := rfl
  have l0 : op1 gLen (eVar 0) ρ = .ok (.cl, .int (xs.length : Nat)) := op1_ok v0 rfl
  have l1 : op1 gLen (eVar 1) ρ = .ok (.cl, .int (xs.length : Nat)) := op1_ok v1 rfl
  have ne : t2 gNe (op1 gLen (eVar 0)) (op1 gLen (eVar 1)) ρ = .ok false := by
    have := t2_ok (g := gNe) l0 l1 gNe_i
    rw [beq_self_eq_true] at this
    exact this
  obtain ⟨b, hb⟩ := same_loopT xs h xs.length 0 none (by omega)
  unfold B__law_same
  refine sSeq_n (ρ1 := ρ) (sIf_f (isi_ok v1 rfl) (sIf_t (isi_ok v1 rfl) (sIf_f (tOr_f (tNot_ok (b := true) (isi_ok v0 rfl)) ne) rfl))) ?_
  exact sSeq_n (sFor_ok (iRng_ok l1 hx) hb) rfl
end
theorem same_word (k : Nat) {d : D} (h : WD d) : F__law_same (k + 2) [d, d] = .ok (.cl, .bl true) := by
  rcases h with ⟨w, rfl⟩ | ⟨t, rfl⟩
  · exact same_str w
  · refine same_tup _ (by show 2 < 2 ^ 60; omega) fun d hd => ?_
    rcases List.mem_cons.mp hd with rfl | hd
    · exact same_str _
    · rw [List.mem_singleton.mp hd]; exact same_str _
theorem same_words (ws : List D) (hl : ws.length < 2 ^ 60) (h : ∀ d ∈ ws, WD d) : F__law_same 3 [.lst ws, .lst ws] = .ok (.cl, .bl true) := same_lst ws hl fun d hd => same_word 0 (h d hd)
theorem same_txt (x : List Nat) : F__law_same 3 [.str x, .str x] = .ok (.cl, .bl true) := same_str x
theorem noLs_words : ∀ ws : List D, (∀ d ∈ ws, WD d) → noLs ws = true
  | [], _ => rfl
  | d :: r, h => by
    show (noL d && noLs r) = true
    rw [noLs_words r fun x hx => h x (List.mem_cons_of_mem _ hx), Bool.and_true]
    rcases h d List.mem_cons_self with ⟨w, rfl⟩ | ⟨t, rfl⟩ <;> rfl
def refu : List Nat := [114, 101, 102, 117, 115, 101, 100]
def ask (t : List Nat) : Option (List D) := if prn t = true then P 99999 t else none
def askR (t : List Nat) : Ev := match ask t with
  | some ws => (.fr, .lst ws)
  | none => (.cl, .str refu)
theorem ask_WD {t : List Nat} {ws : List D} (h : ask t = some ws) : (∀ d ∈ ws, WD d) ∧ ws.length ≤ 99999 := by
  unfold ask at h
  split at h
  · exact P_words _ _ _ h
  · cases h
theorem e_asked {t : List Nat} (hz : t.length ≤ 40000) : F__law_asked [.str t] = .ok (askR t) := by
  have w := e_words hz
  let ρ0 : Ro := [some (false, .str t), none]
  have v : aCons (eVar 0) aNil ρ0 = .ok [(.cl, .str t)] := aCons_ok rfl rfl
  have w' : F_words_of [.str t] = match ask t with | some ws => .ok (.fr, .lst ws) | none => .exc IT := by
    rw [w]
    unfold ask
    split <;> rfl
  unfold askR
  cases e : ask t with
  | none =>
    rw [e] at w'
    have c : eCall F_words_of 1 (aCons (eVar 0) aNil) ρ0 = .exc IT := eCall_exc v rfl rfl w'
    refine fn_ok (ρ0 := ρ0) (s := .rt (.cl, .str refu)) rfl rfl ?_ rfl
    have : sRet (eCall F_words_of 1 (aCons (eVar 0) aNil)) ρ0 = .exc IT ρ0 := by unfold sRet; rw [c]; rfl
    show sTryC 1 IT (sRet (eCall F_words_of 1 (aCons (eVar 0) aNil))) refu ρ0 = _
    unfold sTryC
    rw [this]
    exact if_pos ⟨rfl, by show 1 < 2; decide⟩
  | some ws =>
    rw [e] at w'
    obtain ⟨h1, h2⟩ := ask_WD e
    have c : eCall F_words_of 1 (aCons (eVar 0) aNil) ρ0 = .ok (.fr, .lst ws) := eCall_ok v rfl rfl w' (noLs_words ws h1)
    refine fn_ok (ρ0 := ρ0) (s := .rt (.fr, .lst ws)) rfl rfl ?_ rfl
    show sTryC 1 IT (sRet (eCall F_words_of 1 (aCons (eVar 0) aNil))) refu ρ0 = _
    unfold sTryC
    rw [sRet_ok c]
theorem e_due {t : List Nat} (hz : t.length ≤ 40000) : F__law_due [.str t] = .ok (askR t) := by
  have w := e_lwords hz
  let ρ0 : Ro := [some (false, .str t), none]
  have v : aCons (eVar 0) aNil ρ0 = .ok [(.cl, .str t)] := aCons_ok rfl rfl
  have w' : F__law_words [.str t] = match ask t with | some ws => .ok (.fr, .lst ws) | none => .ok (.cl, .non) := by
    rw [w]
    unfold ask
    split <;> rfl
  unfold askR
  cases e : ask t with
  | none =>
    rw [e] at w'
    have c : eCall F__law_words 1 (aCons (eVar 0) aNil) ρ0 = .ok (.cl, .non) := eCall_ok v rfl rfl w' rfl
    refine fn_ok (ρ0 := ρ0) (s := .rt (.cl, .str refu)) rfl rfl ?_ rfl
    exact sSeq_n (ρ1 := [some (false, .str t), some (false, .non)]) (sSet_c c) (sSeq_r (sIf_t (isnT (fa := eVar 1) (k := .cl) (d := .non) rfl rfl) rfl))
  | some ws =>
    rw [e] at w'
    obtain ⟨h1, h2⟩ := ask_WD e
    have c : eCall F__law_words 1 (aCons (eVar 0) aNil) ρ0 = .ok (.fr, .lst ws) := eCall_ok v rfl rfl w' (noLs_words ws h1)
    refine fn_ok (ρ0 := ρ0) (s := .rt (.fr, .lst ws)) rfl rfl ?_ rfl
    exact sSeq_n (ρ1 := [some (false, .str t), some (true, .lst ws)]) (sSet_f c (by show 1 < 2; decide)) (sSeq_n (ρ1 := [some (false, .str t), some (true, .lst ws)]) (sIf_f (isnT (fa := eVar 1) (k := .pk) (d := .lst ws) rfl rfl) rfl) rfl)
theorem askR_noL (t : List Nat) : noLE (askR t) = true := by
  unfold askR
  cases e : ask t with
  | none => rfl
  | some ws => exact noLs_words ws (ask_WD e).1
theorem askR_same (t : List Nat) : F__law_same 3 [(askR t).2, (askR t).2] = .ok (.cl, .bl true) := by
  unfold askR
  cases e : ask t with
  | none => exact same_txt refu
  | some ws => exact same_words ws (by have := (ask_WD e).2; omega) (ask_WD e).1
theorem ask_same {ρ : Ro} {i : Nat} {t : List Nat} (hz : t.length ≤ 40000) (hv : eVar i ρ = .ok (.cl, .str t)) : tNotF (tVal (eCall (F__law_same 3) 2 (aCons (eCall (F__law_asked) 1 (aCons (eVar i) (aNil))) (aCons (eCall (F__law_due) 1 (aCons (eVar i) (aNil))) (aNil))))) ρ = .ok false := by
  have c1 : eCall F__law_asked 1 (aCons (eVar i) aNil) ρ = .ok (askR t) := eCall_ok (aCons_ok hv rfl) rfl rfl (e_asked hz) (askR_noL t)
  have c2 : eCall F__law_due 1 (aCons (eVar i) aNil) ρ = .ok (askR t) := eCall_ok (aCons_ok hv rfl) rfl rfl (e_due hz) (askR_noL t)
  have ha := aCons_ok c1 (aCons_ok c2 (show aNil ρ = .ok [] from rfl))
  exact tNot_ok (b := true) (tVal_b (k := .cl) (eCall_ok ha rfl rfl (askR_same t) rfl))
end PL
set_option Elab.async false
set_option linter.all false
set_option maxRecDepth 100000
set_option maxHeartbeats 4000000
/-! Mi55: the law answers True. -/
namespace PL
open PySem PySem.Spec L2

theorem known_w : ∀ c ∈ known, c = 10 ∨ prc c = true := by decide
theorem mulN {ρ : Ro} {fa fb : EF} {k k2 : Kd} {x y : Nat} (ha : fa ρ = .ok (k, .int x)) (hb : fb ρ = .ok (k2, .int y)) (hx : x < 1000) : op2 gMulI fa fb ρ = .ok (.cl, .int ((x * y : Nat) : Int)) :=
  op2_ok ha hb ((gMul_i' (by omega)).trans (congrArg (fun z => R.ok (Kd.cl, D.int z)) (Int.natCast_mul _ _).symm))
/-- the slots of the law -/
def lE (sc : D) (ds : List Nat) (a2 a3 a4 a5 a6 a7 a8 a9 a10 a11 : Sl) : Ro := [some (false, sc), some (true, numD ds), a2, a3, a4, a5, a6, a7, a8, a9, a10, a11]
def jB : SF := (sSeq (sSet 5 (eCall (F__law_signs) 2 (aCons (op2 gIx (eVar 1) (op2 gAdd (op2 gAdd (eC (.int 5)) (op2 gMulI (eC (.int 4)) (eVar 2))) (eVar 4))) (aCons (op2 gMod (op2 gIx (eVar 1) (op2 gAdd (eC (.int 25)) (eVar 2))) (eC (.int 9))) (aNil))))) <|
    sSeq (sSet 6 (mth1 gJoin (eC (.str [])) (lcF (iVal (eVar 5)) [7] (gNm 7) (tAndF (t2 gNe (eVar 7) (eC (.str [32]))) (tAndF (t2 gNe (eVar 7) (eC (.str [10]))) (t2 gNe (eVar 7) (eC (.str [34]))))) (eVar 7)))) <|
    sApp 3 (op2 gIx (disp (fun ds => (.fr, .lst ds)) (aCons (disp (fun ds => (.cl, .tup ds)) (aCons (eC (.str [116, 101, 120, 116])) (aCons (eVar 5) (aNil)))) (aCons (op2 gAdd (eVar 6) (eC (.str [97]))) (aCons (disp (fun ds => (.cl, .tup ds)) (aCons (eC (.str [116, 101, 120, 116])) (aCons (eC (.str [])) (aNil)))) (aCons (op2 gAdd (eC (.str [45])) (op1 gStr (eVar 4))) (aNil)))))) (op2 gMod (op2 gIx (eVar 1) (op2 gAdd (op2 gAdd (eC (.int 5)) (op2 gMulI (eC (.int 4)) (eVar 2))) (eVar 4))) (eC (.int 4)))))
def keepC (c : Nat) : Bool := !(c == 32) && (!(c == 10) && !(c == 34))
section
variable {sc : D} {ds : List Nat} {k : Nat}
theorem j_turn (hd : ds.length = 60) (hk : k < 5) {j : Nat} (hj : j < 4) {fs : List D} (hf : fs.length ≤ 1000) (a5 a6 a7 a8 a9 a10 a11 : Sl) :
    ∃ d b5 b6, GW d ∧ jB (lE sc ds (some (false, .int k)) (some (true, .lst fs)) (some (false, .int j)) a5 a6 a7 a8 a9 a10 a11) = .nx (lE sc ds (some (false, .int k)) (some (true, .lst (fs ++ [d]))) (some (false, .int j)) b5 b6 a7 a8 a9 a10 a11) := by
  let E (a5 a6 : Sl) : Ro := lE sc ds (some (false, .int k)) (some (true, .lst fs)) (some (false, .int j)) a5 a6 a7 a8 a9 a10 a11
  have ix : ∀ a5 a6, op2 gIx (eVar 1) (op2 gAdd (op2 gAdd (eC (.int 5)) (op2 gMulI (eC (.int 4)) (eVar 2))) (eVar 4)) (E a5 a6) = .ok (.cl, .int (ds[5 + 4 * k + j]'(by omega) : Nat)) := fun a5 a6 =>
    ixN_ok (ds := ds) (k := .pk) (i := 5 + 4 * k + j) rfl (addN (addN (cI 5 _) (mulN (cI 4 _) (fb := eVar 2) (k2 := .cl) (y := k) rfl (by decide))) (fl := eVar 4) (k2 := .cl) (y := j) rfl) (by omega)
  have cnt : op2 gMod (op2 gIx (eVar 1) (op2 gAdd (eC (.int 25)) (eVar 2))) (eC (.int 9)) (E a5 a6) = .ok (.cl, .int ((ds[25 + k]'(by omega) % 9 : Nat) : Int)) :=
    md_ok (ixN_ok (ds := ds) (k := .pk) (i := 25 + k) rfl (addN (cI 25 _) (fl := eVar 2) (k2 := .cl) (y := k) rfl) (by omega)) (cI 9 _) (by decide)
  obtain ⟨x, s1, s2, s3⟩ := e_signs (ds[5 + 4 * k + j]'(by omega) : Nat) (ds[25 + k]'(by omega) % 9) (by omega)
  have hx : x.length ≤ 9 := by rw [s2]; omega
  have c5 : eCall F__law_signs 2 (aCons (op2 gIx (eVar 1) (op2 gAdd (op2 gAdd (eC (.int 5)) (op2 gMulI (eC (.int 4)) (eVar 2))) (eVar 4))) (aCons (op2 gMod (op2 gIx (eVar 1) (op2 gAdd (eC (.int 25)) (eVar 2))) (eC (.int 9))) aNil)) (E a5 a6) = .ok (.cl, .str x) :=
    eCall_ok (aCons_ok (ix a5 a6) (aCons_ok cnt rfl)) rfl rfl s1 rfl
  let X5 : Sl := some (false, .str x)
  let pl := x.filter keepC
  have hpl : pl.length ≤ 9 := Nat.le_trans (List.length_filter_le _ _) hx
  have c6 : mth1 gJoin (eC (.str [])) (lcF (iVal (eVar 5)) [7] (gNm 7) (tAndF (t2 gNe (eVar 7) (eC (.str [32]))) (tAndF (t2 gNe (eVar 7) (eC (.str [10]))) (t2 gNe (eVar 7) (eC (.str [34]))))) (eVar 7)) (E X5 a6) = .ok (.cl, .str pl) := by
    refine mth1_ok (k1 := .cl) (a := []) (k2 := .fr) (y := .lst ((pl.map fun c => [c]).map D.str)) rfl (lcF_ok (p := (false, x.map fun c => D.str [c])) rfl ?_ ?_) ?_
    · rw [List.length_map]; omega
    · rw [lcA_sift (p := keepC) (g := fun c => D.str [c]), List.map_map]
      · rfl
      · intro c hc
        have ne : ∀ (z : Nat) (ρ : Ro), eVar 7 ρ = .ok (.cl, .str [c]) → t2 gNe (eVar 7) (eC (.str [z])) ρ = .ok (!(c == z)) := fun z ρ hv => by
          refine t2_ok (k := .cl) (k2 := .cl) (y := .str [z]) hv rfl ?_
          rw [gNe_s]
          have : ([c] == [z]) = (c == z) := by
            rw [Bool.eq_iff_iff, beq_iff_eq, beq_iff_eq]
            exact ⟨fun w => (List.cons.inj w).1, fun w => by rw [w]⟩
          rw [this]
        have t : tAndF (t2 gNe (eVar 7) (eC (.str [32]))) (tAndF (t2 gNe (eVar 7) (eC (.str [10]))) (t2 gNe (eVar 7) (eC (.str [34])))) (lE sc ds (some (false, .int k)) (some (true, .lst fs)) (some (false, .int j)) X5 a6 (some (false, .str [c])) a8 a9 a10 a11) = .ok (keepC c) := by
          have n1 := ne 32 (lE sc ds (some (false, .int k)) (some (true, .lst fs)) (some (false, .int j)) X5 a6 (some (false, .str [c])) a8 a9 a10 a11) rfl
          have n2 := ne 10 (lE sc ds (some (false, .int k)) (some (true, .lst fs)) (some (false, .int j)) X5 a6 (some (false, .str [c])) a8 a9 a10 a11) rfl
          have n3 := ne 34 (lE sc ds (some (false, .int k)) (some (true, .lst fs)) (some (false, .int j)) X5 a6 (some (false, .str [c])) a8 a9 a10 a11) rfl
          unfold keepC
          cases h1 : c == 32 with
          | true => rw [h1] at n1; exact tAnd_f n1
          | false =>
            rw [h1] at n1
            cases h2 : c == 10 with
            | true => rw [h2] at n2; exact tAnd_t n1 (tAnd_f n2)
            | false => rw [h2] at n2; exact tAnd_t n1 (tAnd_t n2 n3)
        cases q : keepC c with
        | true => rw [q] at t; exact turn_ok (ρ1 := _) rfl t (e := (.cl, .str [c])) rfl rfl
        | false => rw [q] at t; exact turn_no (ρ1 := _) rfl t
    · rw [gJoin_l (by rw [one_fit]; omega), joinL_nil, flat_one]
      rw [List.map_id']
  let X6 : Sl := some (false, .str pl)
  have b1 : sSet 5 _ (E a5 a6) = .nx (E X5 a6) := sSet_c c5
  have b2 : sSet 6 _ (E X5 a6) = .nx (E X5 X6) := sSet_c c6
  have v5 : eVar 5 (E X5 X6) = .ok (.cl, .str x) := rfl
  have v6 : eVar 6 (E X5 X6) = .ok (.cl, .str pl) := rfl
  have k97 : op2 gAdd (eVar 6) (eC (.str [97])) (E X5 X6) = .ok (.cl, .str (pl ++ [97])) := addS v6 (k2 := .cl) (y := [97]) rfl (by rw [List.length_singleton]; omega)
  have k45 : op2 gAdd (eC (.str [45])) (op1 gStr (eVar 4)) (E X5 X6) = .ok (.cl, .str ([45] ++ TL.numL j)) := addS (k := .cl) (x := [45]) rfl (op1_ok (k1 := .cl) (x := .int j) rfl (gStr_ok (by omega))) (by rw [TL.numL_lt (by omega)]; show 2 ≤ 16777216; decide)
  have tp : ∀ f y, f (E X5 X6) = .ok (.cl, .str y) → disp (fun ds => (.cl, .tup ds)) (aCons (eC (.str [116, 101, 120, 116])) (aCons f aNil)) (E X5 X6) = .ok (.cl, .tup [.str TEXT, .str y]) := fun f y hf => disp_ok (aCons_ok rfl (aCons_ok hf rfl)) rfl (by show 2 ≤ 16777216; decide) rfl
  have four : disp (fun ds => (.fr, .lst ds)) (aCons (disp (fun ds => (.cl, .tup ds)) (aCons (eC (.str [116, 101, 120, 116])) (aCons (eVar 5) (aNil)))) (aCons (op2 gAdd (eVar 6) (eC (.str [97]))) (aCons (disp (fun ds => (.cl, .tup ds)) (aCons (eC (.str [116, 101, 120, 116])) (aCons (eC (.str [])) (aNil)))) (aCons (op2 gAdd (eC (.str [45])) (op1 gStr (eVar 4))) (aNil))))) (E X5 X6)
      = .ok (.fr, .lst [.tup [.str TEXT, .str x], .str (pl ++ [97]), .tup [.str TEXT, .str []], .str ([45] ++ TL.numL j)]) :=
    disp_ok (aCons_ok (tp _ x v5) (aCons_ok k97 (aCons_ok (tp _ [] rfl) (aCons_ok k45 rfl)))) rfl (by show 4 ≤ 16777216; decide) rfl
  have hq : ds[5 + 4 * k + j]'(by omega) % 4 < 4 := Nat.mod_lt _ (by decide)
  have md := md_ok (ix X5 X6) (cI 4 _) (by decide)
  obtain ⟨d, hgd, hget⟩ : ∃ d, GW d ∧ [D.tup [.str TEXT, .str x], .str (pl ++ [97]), .tup [.str TEXT, .str []], .str ([45] ++ TL.numL j)][ds[5 + 4 * k + j]'(by omega) % 4]? = some d := by
    have w1 : GW (.tup [.str TEXT, .str x]) := .inr ⟨x, rfl, fun c hc => known_w c (s3 c hc), by omega⟩
    have w3 : GW (.tup [.str TEXT, .str []]) := .inr ⟨[], rfl, fun c hc => absurd hc List.not_mem_nil, Nat.zero_le _⟩
    have w2 : GW (.str (pl ++ [97])) := by
      have hc : ∀ c ∈ pl, c ≠ 32 ∧ c ≠ 34 ∧ prc c = true := fun c hc => by
        obtain ⟨m1, m2⟩ := List.mem_filter.mp hc
        unfold keepC at m2
        simp only [Bool.and_eq_true, Bool.not_eq_true', beq_eq_false_iff_ne] at m2
        exact ⟨m2.1, m2.2.2, (known_w c (s3 c m1)).resolve_left m2.2.1⟩
      refine .inl ⟨_, rfl, by simp, fun z => ?_, fun z => ?_, ?_, by rw [List.length_append, List.length_singleton]; omega⟩
      · rcases List.mem_append.mp z with z | z
        · exact (hc _ z).1 rfl
        · exact absurd (List.mem_singleton.mp z) (by decide)
      · rcases List.mem_append.mp z with z | z
        · exact (hc _ z).2.1 rfl
        · exact absurd (List.mem_singleton.mp z) (by decide)
      · unfold prn
        rw [List.all_append, List.all_eq_true.mpr fun c h => (hc c h).2.2]
        decide
    have w4 : GW (.str ([45] ++ TL.numL j)) := by
      rw [TL.numL_lt (by omega)]
      refine .inl ⟨_, rfl, by simp, fun z => ?_, fun z => ?_, ?_, by show 2 ≤ 200; decide⟩
      · simp at z; omega
      · simp at z; omega
      · show (prc 45 && (prc (48 + j) && true)) = true
        unfold prc
        simp
        omega
    generalize ds[5 + 4 * k + j]'(by omega) % 4 = q at hq
    match q, hq with
    | 0, _ => exact ⟨_, w1, rfl⟩
    | 1, _ => exact ⟨_, w2, rfl⟩
    | 2, _ => exact ⟨_, w3, rfl⟩
    | 3, _ => exact ⟨_, w4, rfl⟩
  have b3 : sApp 3 _ (E X5 X6) = .nx (lE sc ds (some (false, .int k)) (some (true, .lst (fs ++ [d]))) (some (false, .int j)) X5 X6 a7 a8 a9 a10 a11) := sApp_ok (ds := fs) (e := (.cl, d)) rfl (op2_ok four md (gIx_l hget)) rfl (by omega)
  exact ⟨d, X5, X6, hgd, sSeq_n b1 (sSeq_n b2 b3)⟩
theorem j_loop (hd : ds.length = 60) (hk : k < 5) (a7 a8 a9 a10 a11 : Sl) : ∀ (m i : Nat) (fs : List D) (a4 a5 a6 : Sl), i + m ≤ 4 → fs.length = i → (∀ d ∈ fs, GW d) →
    ∃ ws b4 b5 b6, (∀ d ∈ ws, GW d) ∧ ws.length = i + m ∧ forL (gNm 4) jB ((List.range' i m).map fun k : Nat => D.int k) (lE sc ds (some (false, .int k)) (some (true, .lst fs)) a4 a5 a6 a7 a8 a9 a10 a11) = .nx (lE sc ds (some (false, .int k)) (some (true, .lst ws)) b4 b5 b6 a7 a8 a9 a10 a11)
  | 0, i, fs, a4, a5, a6, _, hl, hg => ⟨fs, a4, a5, a6, hg, by omega, rfl⟩
  | m + 1, i, fs, a4, a5, a6, hi, hl, hg => by
    obtain ⟨d, b5, b6, hgd, ht⟩ := j_turn (sc := sc) hd hk (j := i) (by omega) (fs := fs) (by omega) a5 a6 a7 a8 a9 a10 a11
    obtain ⟨ws, c4, c5, c6, g1, g2, g3⟩ := j_loop hd hk a7 a8 a9 a10 a11 m (i + 1) (fs ++ [d]) (some (false, .int i)) b5 b6 (by omega) (by rw [List.length_append, List.length_singleton]; omega) (fun x hx => (List.mem_append.mp hx).elim (hg x) fun z => by rw [List.mem_singleton.mp z]; exact hgd)
    refine ⟨ws, c4, c5, c6, g1, by omega, ?_⟩
    rw [List.range'_succ, List.map_cons]
    exact forL_n (ρ1 := lE sc ds (some (false, .int k)) (some (true, .lst fs)) (some (false, .int i)) a5 a6 a7 a8 a9 a10 a11) rfl ht g3
end
end PL
set_option Elab.async false
set_option linter.all false
set_option maxRecDepth 100000
set_option maxHeartbeats 4000000
/-! Mj55: the law answers True. -/
namespace PL
open PySem PySem.Spec L2

def aB (i : Nat) : SF := (sIf (tNotF (tVal (eCall (F__law_same 3) 2 (aCons (eCall (F__law_asked) 1 (aCons (eVar i) (aNil))) (aCons (eCall (F__law_due) 1 (aCons (eVar i) (aNil))) (aNil)))))) (sRet (eC (.bl false))) (sSkip))
def kB : SF := (sSeq (sSet 3 (disp (fun ds => (.fr, .lst ds)) (aNil))) <|
    sSeq (sFor (iRng (op2 gAdd (eC (.int 1)) (op2 gMod (op2 gIx (eVar 1) (eVar 2)) (eC (.int 4))))) (gNm 4) jB) <|
    sSeq (sSet 8 (eCall (F_row_of) 1 (aCons (eVar 3) (aNil)))) <|
    sSeq (sIf (tOrF (tNotF (tVal (eCall (F__law_same 3) 2 (aCons (eVar 8) (aCons (eCall (F__law_row) 1 (aCons (eVar 3) (aNil))) (aNil)))))) (tNotF (tVal (eCall (F__law_same 3) 2 (aCons (eCall (F_words_of) 1 (aCons (eVar 8) (aNil))) (aCons (eVar 3) (aNil))))))) (sRet (eC (.bl false))) (sSkip)) <|
    sSeq (sSet 9 (eCall (F_words_of) 1 (aCons (eVar 8) (aNil)))) <|
    sSeq (sApp 9 (eC (.str [99, 104, 97, 110, 103, 101, 100]))) <|
    sSeq (sSet 10 (disp (fun ds => (.fr, .lst ds)) (aCons (eVar 8) (aCons (op2 gAdd (eVar 8) (eC (.str [32]))) (aCons (op2 gAdd (eC (.str [32])) (eVar 8)) (aCons (op1 (gRepl [32] [32, 32]) (eVar 8)) (aCons (op2 gAdd (eVar 8) (eC (.str [34]))) (aCons (op2 gAdd (eC (.str [34])) (eVar 8)) (aCons (op2 gAdd (eVar 8) (eC (.str [92]))) (aCons (op2 gAdd (eVar 8) (eC (.str [32, 34, 92, 110, 34]))) (aCons (op2 gAdd (eVar 8) (eC (.str [32, 34, 92, 116, 34]))) (aNil)))))))))))) <|
    sFor (iVal (op2 gAdd (eVar 10) (disp (fun ds => (.fr, .lst ds)) (aCons (eCall (F__law_bent) 3 (aCons (eVar 8) (aCons (eVar 1) (aCons (op2 gAdd (eC (.int 30)) (op2 gMulI (eC (.int 3)) (eVar 2))) (aNil))))) (aCons (eCall (F__law_bent) 3 (aCons (eVar 8) (aCons (eVar 1) (aCons (op2 gAdd (eC (.int 45)) (eVar 2)) (aNil))))) (aNil)))))) (gNm 11) (aB 11))
section
variable {sc : D} {ds : List Nat} {k : Nat}
theorem a_loop (a2 a3 a4 a5 a6 a7 a8 a9 a10 : Sl) : ∀ (xs : List (List Nat)) (a11 : Sl), (∀ x ∈ xs, x.length ≤ 40000) → ∃ b11, forL (gNm 11) (aB 11) (xs.map D.str) (lE sc ds a2 a3 a4 a5 a6 a7 a8 a9 a10 a11) = .nx (lE sc ds a2 a3 a4 a5 a6 a7 a8 a9 a10 b11)
  | [], a11, _ => ⟨a11, rfl⟩
  | x :: xs, a11, h => by
    obtain ⟨b, ih⟩ := a_loop a2 a3 a4 a5 a6 a7 a8 a9 a10 xs (some (false, .str x)) fun y hy => h y (List.mem_cons_of_mem _ hy)
    exact ⟨b, forL_n (ρ1 := lE sc ds a2 a3 a4 a5 a6 a7 a8 a9 a10 (some (false, .str x))) rfl (sIf_f (ask_same (t := x) (h x List.mem_cons_self) rfl) rfl) ih⟩
theorem b_loop (a2 a3 a4 a5 a6 a7 a9 a10 a11 : Sl) : ∀ (xs : List (List Nat)) (a8 : Sl), (∀ x ∈ xs, x.length ≤ 40000) → ∃ b8, forL (gNm 8) (aB 8) (xs.map D.str) (lE sc ds a2 a3 a4 a5 a6 a7 a8 a9 a10 a11) = .nx (lE sc ds a2 a3 a4 a5 a6 a7 b8 a9 a10 a11)
  | [], a8, _ => ⟨a8, rfl⟩
  | x :: xs, a8, h => by
    obtain ⟨b, ih⟩ := b_loop a2 a3 a4 a5 a6 a7 a9 a10 a11 xs (some (false, .str x)) fun y hy => h y (List.mem_cons_of_mem _ hy)
    exact ⟨b, forL_n (ρ1 := lE sc ds a2 a3 a4 a5 a6 a7 (some (false, .str x)) a9 a10 a11) rfl (sIf_f (ask_same (t := x) (h x List.mem_cons_self) rfl) rfl) ih⟩
theorem GW_WD {d : D} (h : GW d) : WD d := by
  rcases h with ⟨w, e, _⟩ | ⟨x, e, _⟩
  · exact .inl ⟨w, e⟩
  · exact .inr ⟨x, e⟩
theorem words_back {ws : List D} (h : ∀ d ∈ ws, GW d) (hn : ws.length ≤ 20) (h0 : ws ≠ []) : F_words_of [.str (rowW ws)] = .ok (.fr, .lst ws) := by
  obtain ⟨h1, h2, _⟩ := rowW_ok h hn
  rw [e_words (by omega), if_pos h1, show P 99999 (rowW ws) = some ws from P_join ws 99999 h0 (by omega) h]
theorem repl_len1 (x : List Nat) : (StrLaws.replL [32] [32, 32] x).length ≤ 2 * x.length := repl_len 32 32 32 x
theorem k_turn (hd : ds.length = 60) (hk : k < 5) (a3 a4 a5 a6 a7 a8 a9 a10 a11 : Sl) :
    ∃ b3 b4 b5 b6 b7 b8 b9 b10 b11, kB (lE sc ds (some (false, .int k)) a3 a4 a5 a6 a7 a8 a9 a10 a11) = .nx (lE sc ds (some (false, .int k)) b3 b4 b5 b6 b7 b8 b9 b10 b11) := by
  let K : Sl := some (false, .int k)
  have hc : ds[k]'(by omega) % 4 < 4 := Nat.mod_lt _ (by decide)
  have r : iRng (op2 gAdd (eC (.int 1)) (op2 gMod (op2 gIx (eVar 1) (eVar 2)) (eC (.int 4)))) (lE sc ds K (some (true, .lst [])) a4 a5 a6 a7 a8 a9 a10 a11) = .ok (false, (List.range' 0 (1 + ds[k]'(by omega) % 4)).map fun k : Nat => D.int k) :=
    iRng_ok (k := .cl) (n := 1 + ds[k]'(by omega) % 4) (addN (cI 1 _) (md_ok (ixN_ok (ds := ds) (k := .pk) (k2 := .cl) (i := k) rfl rfl (by omega)) (cI 4 _) (by decide))) (by omega)
  obtain ⟨ws, b4, b5, b6, g1, g2, g3⟩ := j_loop (sc := sc) hd hk a7 a8 a9 a10 a11 (1 + ds[k]'(by omega) % 4) 0 [] a4 a5 a6 (by omega) rfl (fun d hd => absurd hd List.not_mem_nil)
  have hws : ws.length ≤ 20 := by omega
  have hws0 : ws ≠ [] := fun z => by rw [z] at g2; simp only [List.length_nil] at g2; omega
  obtain ⟨h1, h2, _⟩ := rowW_ok g1 hws
  let W : Sl := some (true, .lst ws)
  let row := rowW ws
  have hrow : row.length ≤ 8060 := h2
  let R8 : Sl := some (false, .str row)
  let ρ2 := lE sc ds K W b4 b5 b6 a7 a8 a9 a10 a11
  let ρ3 := lE sc ds K W b4 b5 b6 a7 R8 a9 a10 a11
  have c8 : eCall F_row_of 1 (aCons (eVar 3) aNil) ρ2 = .ok (.cl, .str row) := eCall_ok (aCons_ok (show eVar 3 ρ2 = .ok (.pk, .lst ws) from rfl) rfl) rfl rfl (e_rowof g1 hws) rfl
  have v8 : eVar 8 ρ3 = .ok (.cl, .str row) := rfl
  have v3 : eVar 3 ρ3 = .ok (.pk, .lst ws) := rfl
  have lr : eCall F__law_row 1 (aCons (eVar 3) aNil) ρ3 = .ok (.cl, .str row) := eCall_ok (aCons_ok v3 rfl) rfl rfl (e_lrow g1 hws) rfl
  have wo : eCall F_words_of 1 (aCons (eVar 8) aNil) ρ3 = .ok (.fr, .lst ws) := eCall_ok (aCons_ok v8 rfl) rfl rfl (words_back g1 hws hws0) (noLs_words ws fun d h => GW_WD (g1 d h))
  have t1 : tNotF (tVal (eCall (F__law_same 3) 2 (aCons (eVar 8) (aCons (eCall (F__law_row) 1 (aCons (eVar 3) (aNil))) (aNil))))) ρ3 = .ok false := by
    have ha := aCons_ok v8 (aCons_ok lr (show aNil ρ3 = .ok [] from rfl))
    exact tNot_ok (b := true) (tVal_b (k := .cl) (eCall_ok ha rfl rfl (same_txt row) rfl))
  have t2 : tNotF (tVal (eCall (F__law_same 3) 2 (aCons (eCall (F_words_of) 1 (aCons (eVar 8) (aNil))) (aCons (eVar 3) (aNil))))) ρ3 = .ok false := by
    have ha := aCons_ok wo (aCons_ok v3 (show aNil ρ3 = .ok [] from rfl))
    exact tNot_ok (b := true) (tVal_b (k := .cl) (eCall_ok ha rfl rfl (same_words ws (by omega) fun d h => GW_WD (g1 d h)) rfl))
  let ρ4 := lE sc ds K W b4 b5 b6 a7 R8 (some (true, .lst ws)) a10 a11
  let ρ5 := lE sc ds K W b4 b5 b6 a7 R8 (some (true, .lst (ws ++ [.str [99, 104, 97, 110, 103, 101, 100]]))) a10 a11
  have b9 : sSet 9 (eCall (F_words_of) 1 (aCons (eVar 8) (aNil))) ρ3 = .nx ρ4 := sSet_f wo (by show 9 < 12; decide)
  have b9' : sApp 9 (eC (.str [99, 104, 97, 110, 103, 101, 100])) ρ4 = .nx ρ5 := sApp_ok (ds := ws) (e := (.cl, .str [99, 104, 97, 110, 103, 101, 100])) rfl rfl rfl (by omega)
  have T8 : Tx ρ5 (eVar 8) 8060 := ⟨row, rfl, h2⟩
  have Tr : Tx ρ5 (op1 (gRepl [32] [32, 32]) (eVar 8)) 16120 := by
    have hl := repl_len1 row
    refine ⟨_, op1_ok (k1 := .cl) (x := .str row) rfl (gRepl_ok ?_), by omega⟩
    simp only [List.length_cons, List.length_nil]
    omega
  obtain ⟨odd, o1, o2, o3⟩ := Ls.disp (n := 40000) (TxA.cons T8 (by decide) (TxA.cons (T8.add (Tx.con [32]) (by decide)) (by decide) (TxA.cons ((Tx.con [32]).add T8 (by decide)) (by decide) (TxA.cons Tr (by decide) (TxA.cons (T8.add (Tx.con [34]) (by decide)) (by decide) (TxA.cons ((Tx.con [34]).add T8 (by decide)) (by decide)
    (TxA.cons (T8.add (Tx.con [92]) (by decide)) (by decide) (TxA.cons (T8.add (Tx.con [32, 34, 92, 110, 34]) (by decide)) (by decide) (TxA.cons (T8.add (Tx.con [32, 34, 92, 116, 34]) (by decide)) (by decide) TxA.nil))))))))) (by decide)
  let ρ6 := lE sc ds K W b4 b5 b6 a7 R8 (some (true, .lst (ws ++ [.str [99, 104, 97, 110, 103, 101, 100]]))) (some (true, .lst (odd.map D.str))) a11
  obtain ⟨z1, z2, z3⟩ := e_bent (text := row) (ds := ds) (q := 30 + 3 * k) (by omega) (by omega)
  obtain ⟨y1, y2, y3⟩ := e_bent (text := row) (ds := ds) (q := 45 + k) (by omega) (by omega)
  have w8 : eVar 8 ρ6 = .ok (.cl, .str row) := rfl
  have w1 : eVar 1 ρ6 = .ok (.pk, numD ds) := rfl
  have n1 : op2 gAdd (eC (.int 30)) (op2 gMulI (eC (.int 3)) (eVar 2)) ρ6 = .ok (.cl, .int ((30 + 3 * k : Nat) : Int)) := addN (cI 30 _) (mulN (cI 3 _) (fb := eVar 2) (k2 := .cl) (y := k) rfl (by decide))
  have n2 : op2 gAdd (eC (.int 45)) (eVar 2) ρ6 = .ok (.cl, .int ((45 + k : Nat) : Int)) := addN (cI 45 _) (fl := eVar 2) (k2 := .cl) (y := k) rfl
  have be1 : eCall F__law_bent 3 (aCons (eVar 8) (aCons (eVar 1) (aCons (op2 gAdd (eC (.int 30)) (op2 gMulI (eC (.int 3)) (eVar 2))) aNil))) ρ6 = .ok (.cl, .str z1) := eCall_ok (aCons_ok w8 (aCons_ok w1 (aCons_ok n1 rfl))) rfl rfl z2 rfl
  have be2 : eCall F__law_bent 3 (aCons (eVar 8) (aCons (eVar 1) (aCons (op2 gAdd (eC (.int 45)) (eVar 2)) aNil))) ρ6 = .ok (.cl, .str y1) := eCall_ok (aCons_ok w8 (aCons_ok w1 (aCons_ok n2 rfl))) rfl rfl y2 rfl
  have ls : op2 gAdd (eVar 10) (disp (fun ds => (.fr, .lst ds)) (aCons (eCall (F__law_bent) 3 (aCons (eVar 8) (aCons (eVar 1) (aCons (op2 gAdd (eC (.int 30)) (op2 gMulI (eC (.int 3)) (eVar 2))) (aNil))))) (aCons (eCall (F__law_bent) 3 (aCons (eVar 8) (aCons (eVar 1) (aCons (op2 gAdd (eC (.int 45)) (eVar 2)) (aNil))))) (aNil)))) ρ6 = .ok (.fr, .lst ((odd ++ [z1, y1]).map D.str)) := by
    refine op2_ok (k1 := .pk) (x := .lst (odd.map D.str)) (k2 := .fr) (y := .lst [.str z1, .str y1]) rfl (disp_ok (aCons_ok be1 (aCons_ok be2 rfl)) rfl (by show 2 ≤ 16777216; decide) rfl) ?_
    rw [gAdd_l (by rw [List.length_map]; simp only [List.length_cons, List.length_nil]; omega), List.map_append]
    rfl
  obtain ⟨b11, al⟩ := a_loop (sc := sc) (ds := ds) K W b4 b5 b6 a7 R8 (some (true, .lst (ws ++ [.str [99, 104, 97, 110, 103, 101, 100]]))) (some (true, .lst (odd.map D.str))) (odd ++ [z1, y1]) a11 fun x hx => by
    rcases List.mem_append.mp hx with h | h
    · exact o3 x h
    · rcases List.mem_cons.mp h with h | h
      · rw [h]; omega
      · rw [List.mem_singleton.mp h]; omega
  have iv : iVal (op2 gAdd (eVar 10) (disp (fun ds => (.fr, .lst ds)) (aCons (eCall (F__law_bent) 3 (aCons (eVar 8) (aCons (eVar 1) (aCons (op2 gAdd (eC (.int 30)) (op2 gMulI (eC (.int 3)) (eVar 2))) (aNil))))) (aCons (eCall (F__law_bent) 3 (aCons (eVar 8) (aCons (eVar 1) (aCons (op2 gAdd (eC (.int 45)) (eVar 2)) (aNil))))) (aNil))))) ρ6 = .ok (false, (odd ++ [z1, y1]).map D.str) := by
    unfold iVal
    rw [ls]
    rfl
  refine ⟨W, b4, b5, b6, a7, R8, some (true, .lst (ws ++ [.str [99, 104, 97, 110, 103, 101, 100]])), some (true, .lst (odd.map D.str)), b11, ?_⟩
  refine sSeq_n (ρ1 := lE sc ds K (some (true, .lst [])) a4 a5 a6 a7 a8 a9 a10 a11) rfl (sSeq_n (ρ1 := ρ2) (sFor_ok r g3) (sSeq_n (ρ1 := ρ3) (sSet_c c8) (sSeq_n (ρ1 := ρ3) (sIf_f (tOr_f t1 t2) rfl) (sSeq_n b9 (sSeq_n b9' (sSeq_n (ρ1 := ρ6) (sSet_f o1 (by show 10 < 12; decide)) (sFor_ok iv al)))))))
theorem k_loop (hd : ds.length = 60) : ∀ (m i : Nat) (a2 a3 a4 a5 a6 a7 a8 a9 a10 a11 : Sl), i + m = 5 → ∃ b2 b3 b4 b5 b6 b7 b8 b9 b10 b11, forL (gNm 2) kB ((List.range' i m).map fun k : Nat => D.int k) (lE sc ds a2 a3 a4 a5 a6 a7 a8 a9 a10 a11) = .nx (lE sc ds b2 b3 b4 b5 b6 b7 b8 b9 b10 b11)
  | 0, i, a2, a3, a4, a5, a6, a7, a8, a9, a10, a11, _ => ⟨_, _, _, _, _, _, _, _, _, _, rfl⟩
  | m + 1, i, a2, a3, a4, a5, a6, a7, a8, a9, a10, a11, hi => by
    obtain ⟨b3, b4, b5, b6, b7, b8, b9, b10, b11, ht⟩ := k_turn (sc := sc) hd (k := i) (by omega) a3 a4 a5 a6 a7 a8 a9 a10 a11
    obtain ⟨c2, c3, c4, c5, c6, c7, c8, c9, c10, c11, ih⟩ := k_loop hd m (i + 1) (some (false, .int i)) b3 b4 b5 b6 b7 b8 b9 b10 b11 (by omega)
    refine ⟨c2, c3, c4, c5, c6, c7, c8, c9, c10, c11, ?_⟩
    rw [List.range'_succ, List.map_cons]
    exact forL_n (ρ1 := lE sc ds (some (false, .int i)) a3 a4 a5 a6 a7 a8 a9 a10 a11) rfl ht ih
end
def lastRows : List (List Nat) := [[], [32], [97], [34, 34], [34, 34, 32, 97], [34, 97, 34, 98], [97, 34, 98, 34], [34], [34, 92, 34], [34, 92, 92, 34], [34, 92, 34, 34], [97, 32, 32, 98], [34, 97, 32, 98, 34, 32, 99], [97, 10, 98], [34, 97, 10, 98, 34], [34, 92, 110, 34]]
def lastW : List D := [.str [97], .tup [.str TEXT, .str [98, 32, 99]], .tup [.str TEXT, .str [34, 92, 10]]]
theorem lastW_ok : ∀ d ∈ lastW, GW d := fun d hd => by
  rcases List.mem_cons.mp hd with rfl | hd
  · exact .inl ⟨_, rfl, List.cons_ne_nil _ _, by decide, by decide, by decide, by decide⟩
  · rcases List.mem_cons.mp hd with rfl | hd
    · exact .inr ⟨_, rfl, by decide, by decide⟩
    · rw [List.mem_singleton.mp hd]
      exact .inr ⟨_, rfl, by decide, by decide⟩
theorem lastRow : rowW lastW = [97, 32, 34, 98, 32, 99, 34, 32, 34, 92, 34, 92, 92, 92, 110, 34] := by decide
theorem e_law (ns : List Int) : F_law [.rol (ns.map D.int)] = .ok (.cl, .bl true) := by
  obtain ⟨z, hz⟩ := e_cell ns
  obtain ⟨ds, n1, n2, n3⟩ := e_numbers z 60 5040 (by decide) (by decide)
  let sc : D := .rol (ns.map D.int)
  let ρ0 : Ro := [some (false, sc), none, none, none, none, none, none, none, none, none, none, none]
  let ρ1 := lE sc ds none none none none none none none none none none
  have c0 : eCall F__law_cell 2 (aCons (eVar 0) (aCons (eC (.int 0)) aNil)) ρ0 = .ok (.cl, .int z) := eCall_ok (aCons_ok rfl (aCons_ok rfl rfl)) rfl rfl hz rfl
  have c1 : eCall F__law_numbers 3 (aCons (eCall (F__law_cell) 2 (aCons (eVar 0) (aCons (eC (.int 0)) (aNil)))) (aCons (eC (.int 60)) (aCons (eC (.int 5040)) (aNil)))) ρ0 = .ok (.fr, numD ds) := eCall_ok (aCons_ok c0 (aCons_ok rfl (aCons_ok rfl rfl))) rfl rfl n1 (noLs_ints _)
  obtain ⟨b2, b3, b4, b5, b6, b7, b8, b9, b10, b11, l1⟩ := k_loop (sc := sc) n2 5 0 none none none none none none none none none none (by decide)
  obtain ⟨c8, l2⟩ := b_loop (sc := sc) (ds := ds) b2 b3 b4 b5 b6 b7 b9 b10 b11 lastRows b8 (by decide)
  let ρ2 := lE sc ds b2 b3 b4 b5 b6 b7 b8 b9 b10 b11
  let ρ3 := lE sc ds b2 b3 b4 b5 b6 b7 c8 b9 b10 b11
  have r1 : iRng (eC (.int 5)) ρ1 = .ok (false, (List.range' 0 5).map fun k : Nat => D.int k) := iRng_ok (k := .cl) (n := 5) rfl (by decide)
  have wo : eCall F_words_of 1 (aCons (eC (.str [97, 32, 34, 98, 32, 99, 34, 32, 34, 92, 34, 92, 92, 92, 110, 34])) aNil) ρ3 = .ok (.fr, .lst lastW) := by
    refine eCall_ok (ds := [.str (rowW lastW)]) (aCons_ok rfl rfl) ?_ rfl (words_back lastW_ok (by decide) (List.cons_ne_nil _ _)) rfl
    rw [lastRow]
    rfl
  have ld : disp (fun ds => (.fr, .lst ds)) (aCons (eC (.str [97])) (aCons (disp (fun ds => (.cl, .tup ds)) (aCons (eC (.str [116, 101, 120, 116])) (aCons (eC (.str [98, 32, 99])) (aNil)))) (aCons (disp (fun ds => (.cl, .tup ds)) (aCons (eC (.str [116, 101, 120, 116])) (aCons (eC (.str [34, 92, 10])) (aNil)))) (aNil)))) ρ3 = .ok (.fr, .lst lastW) :=
    disp_ok (aCons_ok rfl (aCons_ok (disp_ok (aCons_ok rfl (aCons_ok rfl rfl)) rfl (by show 2 ≤ 16777216; decide) rfl) (aCons_ok (disp_ok (aCons_ok rfl (aCons_ok rfl rfl)) rfl (by show 2 ≤ 16777216; decide) rfl) rfl))) rfl (by show 3 ≤ 16777216; decide) rfl
  have fin : eCall (F__law_same 3) 2 (aCons (eCall (F_words_of) 1 (aCons (eC (.str [97, 32, 34, 98, 32, 99, 34, 32, 34, 92, 34, 92, 92, 92, 110, 34])) (aNil))) (aCons (disp (fun ds => (.fr, .lst ds)) (aCons (eC (.str [97])) (aCons (disp (fun ds => (.cl, .tup ds)) (aCons (eC (.str [116, 101, 120, 116])) (aCons (eC (.str [98, 32, 99])) (aNil)))) (aCons (disp (fun ds => (.cl, .tup ds)) (aCons (eC (.str [116, 101, 120, 116])) (aCons (eC (.str [34, 92, 10])) (aNil)))) (aNil))))) (aNil))) ρ3 = .ok (.cl, .bl true) := by
    have hs := same_words lastW (by show 3 < 2 ^ 60; omega) fun d h => GW_WD (lastW_ok d h)
    have ha := aCons_ok wo (aCons_ok ld (show aNil ρ3 = .ok [] from rfl))
    generalize lastW = L at hs ha
    exact eCall_ok ha rfl rfl hs rfl
  have il : iVal (disp (fun ds => (.fr, .lst ds)) (aCons (eC (.str [])) (aCons (eC (.str [32])) (aCons (eC (.str [97])) (aCons (eC (.str [34, 34])) (aCons (eC (.str [34, 34, 32, 97])) (aCons (eC (.str [34, 97, 34, 98])) (aCons (eC (.str [97, 34, 98, 34])) (aCons (eC (.str [34])) (aCons (eC (.str [34, 92, 34])) (aCons (eC (.str [34, 92, 92, 34])) (aCons (eC (.str [34, 92, 34, 34])) (aCons (eC (.str [97, 32, 32, 98])) (aCons (eC (.str [34, 97, 32, 98, 34, 32, 99])) (aCons (eC (.str [97, 10, 98])) (aCons (eC (.str [34, 97, 10, 98, 34])) (aCons (eC (.str [34, 92, 110, 34])) (aNil)))))))))))))))))) ρ2 = .ok (false, lastRows.map D.str) := rfl
  refine fn_ok (ρ0 := ρ0) (s := .rt (.cl, .bl true)) rfl rfl ?_ rfl
  have body : B_law = sSeq (sSet 1 (eCall (F__law_numbers) 3 (aCons (eCall (F__law_cell) 2 (aCons (eVar 0) (aCons (eC (.int 0)) (aNil)))) (aCons (eC (.int 60)) (aCons (eC (.int 5040)) (aNil)))))) (sSeq (sFor (iRng (eC (.int 5))) (gNm 2) kB) (sSeq (sFor (iVal (disp (fun ds => (.fr, .lst ds)) (aCons (eC (.str [])) (aCons (eC (.str [32])) (aCons (eC (.str [97])) (aCons (eC (.str [34, 34])) (aCons (eC (.str [34, 34, 32, 97])) (aCons (eC (.str [34, 97, 34, 98])) (aCons (eC (.str [97, 34, 98, 34])) (aCons (eC (.str [34])) (aCons (eC (.str [34, 92, 34])) (aCons (eC (.str [34, 92, 92, 34])) (aCons (eC (.str [34, 92, 34, 34])) (aCons (eC (.str [97, 32, 32, 98])) (aCons (eC (.str [34, 97, 32, 98, 34, 32, 99])) (aCons (eC (.str [97, 10, 98])) (aCons (eC (.str [34, 97, 10, 98, 34])) (aCons (eC (.str [34, 92, 110, 34])) (aNil))))))))))))))))))) (gNm 8) (aB 8))
    (sRet (eCall (F__law_same 3) 2 (aCons (eCall (F_words_of) 1 (aCons (eC (.str [97, 32, 34, 98, 32, 99, 34, 32, 34, 92, 34, 92, 92, 92, 110, 34])) (aNil))) (aCons (disp (fun ds => (.fr, .lst ds)) (aCons (eC (.str [97])) (aCons (disp (fun ds => (.cl, .tup ds)) (aCons (eC (.str [116, 101, 120, 116])) (aCons (eC (.str [98, 32, 99])) (aNil)))) (aCons (disp (fun ds => (.cl, .tup ds)) (aCons (eC (.str [116, 101, 120, 116])) (aCons (eC (.str [34, 92, 10])) (aNil)))) (aNil))))) (aNil))))))) := rfl
  rw [body]
  exact sSeq_n (ρ1 := ρ1) (sSet_f c1 (by show 1 < 12; decide)) (sSeq_n (ρ1 := ρ2) (sFor_ok r1 l1) (sSeq_n (ρ1 := ρ3) (sFor_ok il l2) (sRet_ok fin)))
end PL
set_option Elab.async false
set_option linter.all false
set_option maxRecDepth 100000
set_option maxHeartbeats 4000000
namespace PL
open PySem PySem.Spec L2
def spLaw (K : PySem.W.Frag) : Sp := fun vs H Q _ => ∃ (a : Addr) (ns : List Int), vs = [.ref a] ∧ SqL K H a (ns.map V.int) ∧ ∀ H', Q (.bl true) H'
theorem law_sp {K : PySem.W.Frag} {mg : Str → Option Value} : ∀ vs H Q E, spLaw K vs H Q E → spD K mg 1 F_law vs H Q E := fun vs H Q E ⟨a, ns, e, hS, q⟩ => by
  subst e
  refine ⟨fun _ => False, [.rol (ns.map D.int)], fun _ z => z.elim, ⟨_, [], rfl, ⟨a, ns.map V.int, rfl, ?_, RpL.of_ints ns⟩, rfl⟩, rfl, ?_⟩
  · exact Same.seq (fun b o e => hd_some.mpr ⟨fun z => z, e⟩) hS
  · rw [e_law]
    intro H' v _ r
    cases (show v = _ from r)
    exact q H'

theorem all_mk {l : PySem.W.OpenLaw} {w : World} {K : PySem.W.Frag} {h : Heap} {mg : Str → Option Value} {fa : Addr} (X : K.In h) (G : h.Ns mainGlobals mg) (hfa : mg "law" = some (.ref fa))
    {f0 : Addr} {od0 an0 : Option Addr} {sl0 : Array (Option Value)} {oc0 kV0 dc0 pm0 cd0 ct0 : Value}
    {f1 : Addr} {od1 an1 : Option Addr} {sl1 : Array (Option Value)} {oc1 kV1 dc1 pm1 cd1 ct1 : Value}
    {f2 : Addr} {od2 an2 : Option Addr} {sl2 : Array (Option Value)} {oc2 kV2 dc2 pm2 cd2 ct2 : Value}
    {f3 : Addr} {od3 an3 : Option Addr} {sl3 : Array (Option Value)} {oc3 kV3 dc3 pm3 cd3 ct3 : Value}
    {f4 : Addr} {od4 an4 : Option Addr} {sl4 : Array (Option Value)} {oc4 kV4 dc4 pm4 cd4 ct4 : Value}
    {f5 : Addr} {od5 an5 : Option Addr} {sl5 : Array (Option Value)} {oc5 kV5 dc5 pm5 cd5 ct5 : Value}
    {f6 : Addr} {od6 an6 : Option Addr} {sl6 : Array (Option Value)} {oc6 kV6 dc6 pm6 cd6 ct6 : Value}
    {f7 : Addr} {od7 an7 : Option Addr} {sl7 : Array (Option Value)} {oc7 kV7 dc7 pm7 cd7 ct7 : Value}
    {f8 : Addr} {od8 an8 : Option Addr} {sl8 : Array (Option Value)} {oc8 kV8 dc8 pm8 cd8 ct8 : Value}
    {f9 : Addr} {od9 an9 : Option Addr} {sl9 : Array (Option Value)} {oc9 kV9 dc9 pm9 cd9 ct9 : Value}
    {f10 : Addr} {od10 an10 : Option Addr} {sl10 : Array (Option Value)} {oc10 kV10 dc10 pm10 cd10 ct10 : Value}
    {f11 : Addr} {od11 an11 : Option Addr} {sl11 : Array (Option Value)} {oc11 kV11 dc11 pm11 cd11 ct11 : Value}
    {f12 : Addr} {od12 an12 : Option Addr} {sl12 : Array (Option Value)} {oc12 kV12 dc12 pm12 cd12 ct12 : Value}
    {f13 : Addr} {od13 an13 : Option Addr} {sl13 : Array (Option Value)} {oc13 kV13 dc13 pm13 cd13 ct13 : Value}
    {f14 : Addr} {od14 an14 : Option Addr} {sl14 : Array (Option Value)} {oc14 kV14 dc14 pm14 cd14 ct14 : Value}
    {f15 : Addr} {od15 an15 : Option Addr} {sl15 : Array (Option Value)} {oc15 kV15 dc15 pm15 cd15 ct15 : Value}
    {f16 : Addr} {od16 an16 : Option Addr} {sl16 : Array (Option Value)} {oc16 kV16 dc16 pm16 cd16 ct16 : Value}
    (a0 : PySem.W.nsIn K mainGlobals "write_text" = some (some (.ref f0))) (l0 : K.lookup f0 = some ⟨oc0, od0, .func (PySem.W.fnOf "write_text" "write_text" (defArgs st_write_text) (defBody st_write_text) (defScope st_write_text) .none kV0 dc0 pm0 an0 cd0 ct0), sl0⟩) (c0 : PySem.W.codeIn K cd0 "write_text" = true) (k0 : PySem.W.keepIn K (.ref f0) = true)
    (a1 : PySem.W.nsIn K mainGlobals "demand" = some (some (.ref f1))) (l1 : K.lookup f1 = some ⟨oc1, od1, .func (PySem.W.fnOf "demand" "demand" (defArgs st_demand) (defBody st_demand) (defScope st_demand) .none kV1 dc1 pm1 an1 cd1 ct1), sl1⟩) (c1 : PySem.W.codeIn K cd1 "demand" = true) (k1 : PySem.W.keepIn K (.ref f1) = true)
    (a2 : PySem.W.nsIn K mainGlobals "quoted_from" = some (some (.ref f2))) (l2 : K.lookup f2 = some ⟨oc2, od2, .func (PySem.W.fnOf "quoted_from" "quoted_from" (defArgs st_quoted_from) (defBody st_quoted_from) (defScope st_quoted_from) .none kV2 dc2 pm2 an2 cd2 ct2), sl2⟩) (c2 : PySem.W.codeIn K cd2 "quoted_from" = true) (k2 : PySem.W.keepIn K (.ref f2) = true)
    (a3 : PySem.W.nsIn K mainGlobals "plain_from" = some (some (.ref f3))) (l3 : K.lookup f3 = some ⟨oc3, od3, .func (PySem.W.fnOf "plain_from" "plain_from" (defArgs st_plain_from) (defBody st_plain_from) (defScope st_plain_from) .none kV3 dc3 pm3 an3 cd3 ct3), sl3⟩) (c3 : PySem.W.codeIn K cd3 "plain_from" = true) (k3 : PySem.W.keepIn K (.ref f3) = true)
    (a4 : PySem.W.nsIn K mainGlobals "words_of" = some (some (.ref f4))) (l4 : K.lookup f4 = some ⟨oc4, od4, .func (PySem.W.fnOf "words_of" "words_of" (defArgs st_words_of) (defBody st_words_of) (defScope st_words_of) .none kV4 dc4 pm4 an4 cd4 ct4), sl4⟩) (c4 : PySem.W.codeIn K cd4 "words_of" = true) (k4 : PySem.W.keepIn K (.ref f4) = true)
    (a5 : PySem.W.nsIn K mainGlobals "row_of" = some (some (.ref f5))) (l5 : K.lookup f5 = some ⟨oc5, od5, .func (PySem.W.fnOf "row_of" "row_of" (defArgs st_row_of) (defBody st_row_of) (defScope st_row_of) .none kV5 dc5 pm5 an5 cd5 ct5), sl5⟩) (c5 : PySem.W.codeIn K cd5 "row_of" = true) (k5 : PySem.W.keepIn K (.ref f5) = true)
    (a6 : PySem.W.nsIn K mainGlobals "_law_cell" = some (some (.ref f6))) (l6 : K.lookup f6 = some ⟨oc6, od6, .func (PySem.W.fnOf "_law_cell" "_law_cell" (defArgs st__law_cell) (defBody st__law_cell) (defScope st__law_cell) .none kV6 dc6 pm6 an6 cd6 ct6), sl6⟩) (c6 : PySem.W.codeIn K cd6 "_law_cell" = true) (k6 : PySem.W.keepIn K (.ref f6) = true)
    (a7 : PySem.W.nsIn K mainGlobals "_law_numbers" = some (some (.ref f7))) (l7 : K.lookup f7 = some ⟨oc7, od7, .func (PySem.W.fnOf "_law_numbers" "_law_numbers" (defArgs st__law_numbers) (defBody st__law_numbers) (defScope st__law_numbers) .none kV7 dc7 pm7 an7 cd7 ct7), sl7⟩) (c7 : PySem.W.codeIn K cd7 "_law_numbers" = true) (k7 : PySem.W.keepIn K (.ref f7) = true)
    (a8 : PySem.W.nsIn K mainGlobals "_law_same" = some (some (.ref f8))) (l8 : K.lookup f8 = some ⟨oc8, od8, .func (PySem.W.fnOf "_law_same" "_law_same" (defArgs st__law_same) (defBody st__law_same) (defScope st__law_same) .none kV8 dc8 pm8 an8 cd8 ct8), sl8⟩) (c8 : PySem.W.codeIn K cd8 "_law_same" = true) (k8 : PySem.W.keepIn K (.ref f8) = true)
    (a9 : PySem.W.nsIn K mainGlobals "_law_quoted" = some (some (.ref f9))) (l9 : K.lookup f9 = some ⟨oc9, od9, .func (PySem.W.fnOf "_law_quoted" "_law_quoted" (defArgs st__law_quoted) (defBody st__law_quoted) (defScope st__law_quoted) .none kV9 dc9 pm9 an9 cd9 ct9), sl9⟩) (c9 : PySem.W.codeIn K cd9 "_law_quoted" = true) (k9 : PySem.W.keepIn K (.ref f9) = true)
    (a10 : PySem.W.nsIn K mainGlobals "_law_row" = some (some (.ref f10))) (l10 : K.lookup f10 = some ⟨oc10, od10, .func (PySem.W.fnOf "_law_row" "_law_row" (defArgs st__law_row) (defBody st__law_row) (defScope st__law_row) .none kV10 dc10 pm10 an10 cd10 ct10), sl10⟩) (c10 : PySem.W.codeIn K cd10 "_law_row" = true) (k10 : PySem.W.keepIn K (.ref f10) = true)
    (a11 : PySem.W.nsIn K mainGlobals "_law_words" = some (some (.ref f11))) (l11 : K.lookup f11 = some ⟨oc11, od11, .func (PySem.W.fnOf "_law_words" "_law_words" (defArgs st__law_words) (defBody st__law_words) (defScope st__law_words) .none kV11 dc11 pm11 an11 cd11 ct11), sl11⟩) (c11 : PySem.W.codeIn K cd11 "_law_words" = true) (k11 : PySem.W.keepIn K (.ref f11) = true)
    (a12 : PySem.W.nsIn K mainGlobals "_law_signs" = some (some (.ref f12))) (l12 : K.lookup f12 = some ⟨oc12, od12, .func (PySem.W.fnOf "_law_signs" "_law_signs" (defArgs st__law_signs) (defBody st__law_signs) (defScope st__law_signs) .none kV12 dc12 pm12 an12 cd12 ct12), sl12⟩) (c12 : PySem.W.codeIn K cd12 "_law_signs" = true) (k12 : PySem.W.keepIn K (.ref f12) = true)
    (a13 : PySem.W.nsIn K mainGlobals "_law_bent" = some (some (.ref f13))) (l13 : K.lookup f13 = some ⟨oc13, od13, .func (PySem.W.fnOf "_law_bent" "_law_bent" (defArgs st__law_bent) (defBody st__law_bent) (defScope st__law_bent) .none kV13 dc13 pm13 an13 cd13 ct13), sl13⟩) (c13 : PySem.W.codeIn K cd13 "_law_bent" = true) (k13 : PySem.W.keepIn K (.ref f13) = true)
    (a14 : PySem.W.nsIn K mainGlobals "_law_asked" = some (some (.ref f14))) (l14 : K.lookup f14 = some ⟨oc14, od14, .func (PySem.W.fnOf "_law_asked" "_law_asked" (defArgs st__law_asked) (defBody st__law_asked) (defScope st__law_asked) .none kV14 dc14 pm14 an14 cd14 ct14), sl14⟩) (c14 : PySem.W.codeIn K cd14 "_law_asked" = true) (k14 : PySem.W.keepIn K (.ref f14) = true)
    (a15 : PySem.W.nsIn K mainGlobals "_law_due" = some (some (.ref f15))) (l15 : K.lookup f15 = some ⟨oc15, od15, .func (PySem.W.fnOf "_law_due" "_law_due" (defArgs st__law_due) (defBody st__law_due) (defScope st__law_due) .none kV15 dc15 pm15 an15 cd15 ct15), sl15⟩) (c15 : PySem.W.codeIn K cd15 "_law_due" = true) (k15 : PySem.W.keepIn K (.ref f15) = true)
    (a16 : PySem.W.nsIn K mainGlobals "law" = some (some (.ref f16))) (l16 : K.lookup f16 = some ⟨oc16, od16, .func (PySem.W.fnOf "law" "law" (defArgs st_law) (defBody st_law) (defScope st_law) .none kV16 dc16 pm16 an16 cd16 ct16), sl16⟩) (c16 : PySem.W.codeIn K cd16 "law" = true) (k16 : PySem.W.keepIn K (.ref f16) = true)
    (z_len : PySem.W.nsIn K mainGlobals "len" = some none)
    (z_all : PySem.W.nsIn K mainGlobals "all" = some none)
    (z_isinstance : PySem.W.nsIn K mainGlobals "isinstance" = some none)
    (z_str : PySem.W.nsIn K mainGlobals "str" = some none)
    (z_int : PySem.W.nsIn K mainGlobals "int" = some none)
    (z_range : PySem.W.nsIn K mainGlobals "range" = some none)
    (z_list : PySem.W.nsIn K mainGlobals "list" = some none)
    (z_tuple : PySem.W.nsIn K mainGlobals "tuple" = some none)
    (z_bool : PySem.W.nsIn K mainGlobals "bool" = some none)
    {t_TEXT : Tok} (z_TEXT : PySem.W.nsIn K mainGlobals "TEXT" = some (some (.str "text" t_TEXT)))
    {t_QUOTE : Tok} (z_QUOTE : PySem.W.nsIn K mainGlobals "QUOTE" = some (some (.str "\"" t_QUOTE)))
    {d_ESCAPES : Addr} (g_ESCAPES : PySem.W.nsIn K mainGlobals "ESCAPES" = some (some (.ref d_ESCAPES))) {es_ESCAPES : Array DictEntry} {en_ESCAPES : Nat} (q_ESCAPES : K.lookup d_ESCAPES = some ⟨.type "dict", none, .dict es_ESCAPES en_ESCAPES, #[]⟩) (qk_ESCAPES : PySem.W.KeysLit w.params es_ESCAPES.toList) (qo_ESCAPES : (d_ESCAPES == sysModules) = false) (qm_ESCAPES : es_ESCAPES.toList.map keyS = [(some ("\\\\" : Str) : Option Str), (some ("\\\"" : Str) : Option Str), (some ("\\n" : Str) : Option Str)])
    {u_ESCAPES0 : Tok} (v_ESCAPES0 : PySem.W.nsIn K d_ESCAPES "\\\\" = some (some (.str "\\" u_ESCAPES0)))
    {u_ESCAPES1 : Tok} (v_ESCAPES1 : PySem.W.nsIn K d_ESCAPES "\\\"" = some (some (.str "\"" u_ESCAPES1)))
    {u_ESCAPES2 : Tok} (v_ESCAPES2 : PySem.W.nsIn K d_ESCAPES "\\n" = some (some (.str "\n" u_ESCAPES2)))
    {C_InvalidText : Addr} (gc_InvalidText : PySem.W.nsIn K mainGlobals "InvalidText" = some (some (.ref C_InvalidText)))
    {C_BuildError : Addr} (gc_BuildError : PySem.W.nsIn K mainGlobals "BuildError" = some (some (.ref C_BuildError)))
    {C_InvalidTree : Addr} (gc_InvalidTree : PySem.W.nsIn K mainGlobals "InvalidTree" = some (some (.ref C_InvalidTree)))
    (r1_InvalidText : PySem.W.keepIn K (.ref C_InvalidText) = true) (r2_InvalidText : PySem.W.subIn K (.ref C_InvalidText) (.type "BaseException") = some true) (r3_InvalidText : PySem.W.typeIn K (.ref C_InvalidText) = some (.type "type")) (r4_InvalidText : PySem.W.excIn K C_InvalidText [.type "ValueError", .type "Exception", .type "BaseException", .type "object"] "ValueError.__new__" = true)
    (s1_InvalidText : PySem.W.subIn K (.ref C_InvalidText) (.ref C_InvalidText) = some true) (s2_InvalidText : PySem.W.isClsIn K C_InvalidText = true) (s3_InvalidText : PySem.W.findIn K (.ref C_InvalidText) "__getattribute__" = some (some (.builtin "BaseException.__getattribute__"))) {gt_InvalidText : Option Value} (s4_InvalidText : PySem.W.findIn K (.ref C_InvalidText) "__getattr__" = some gt_InvalidText)
    (s5_InvalidText : PySem.W.findIn K (.ref C_InvalidText) "__class__" = some (some (.builtin "object.__class__"))) (s6_InvalidText : PySem.W.specialIn K (.builtin "object.__class__") "__get__" = some (some (.builtin "getset_descriptor.__get__"))) (s7_InvalidText : PySem.W.takesIn K (.builtin "object.__class__") = some true) (s8_InvalidText : PySem.W.mroIn K C_InvalidText (.type "object") = some true)
    (y1_InvalidText : PySem.W.subIn K (.ref C_InvalidText) (.ref C_BuildError) = some true) (y2_InvalidText : PySem.W.isClsIn K C_BuildError = true) (y3_InvalidText : PySem.W.typeIn K (.ref C_BuildError) = some (.type "type")) (z1_InvalidText : PySem.W.subIn K (.ref C_InvalidText) (.ref C_InvalidTree) = some false) (z2_InvalidText : PySem.W.isClsIn K C_InvalidTree = true) (z3_InvalidText : PySem.W.typeIn K (.ref C_InvalidTree) = some (.type "type"))
    : ∃ fd : FuncData, (∀ (s : Shared) (v : Value), BindsTo s fd ⟨[v], []⟩ [("script", v)]) ∧ ∀ base : Heap, K.In base → base.Ns mainGlobals mg → FnOk l.prog w K mg base (L2.CX l.prog w) 5 fa fd ["script"] (spLaw K) := by
  have e := hfa.symm.trans (PySem.W.mg_of X G a16)
  cases e
  have F0 := fun_mk (st := st_write_text) l0 c0 k0
  have B0 := F0.binds (ps := ["string"]) fun _ _ _ _ _ _ us hl => match us, hl with | [_], _ => rfl
  have F1 := fun_mk (st := st_demand) l1 c1 k1
  have B1 := F1.binds (ps := ["good"]) fun _ _ _ _ _ _ us hl => match us, hl with | [_], _ => rfl
  have F2 := fun_mk (st := st_quoted_from) l2 c2 k2
  have B2 := F2.binds (ps := ["row", "at"]) fun _ _ _ _ _ _ us hl => match us, hl with | [_, _], _ => rfl
  have F3 := fun_mk (st := st_plain_from) l3 c3 k3
  have B3 := F3.binds (ps := ["row", "at"]) fun _ _ _ _ _ _ us hl => match us, hl with | [_, _], _ => rfl
  have F4 := fun_mk (st := st_words_of) l4 c4 k4
  have B4 := F4.binds (ps := ["row"]) fun _ _ _ _ _ _ us hl => match us, hl with | [_], _ => rfl
  have F5 := fun_mk (st := st_row_of) l5 c5 k5
  have B5 := F5.binds (ps := ["words"]) fun _ _ _ _ _ _ us hl => match us, hl with | [_], _ => rfl
  have F6 := fun_mk (st := st__law_cell) l6 c6 k6
  have B6 := F6.binds (ps := ["script", "k"]) fun _ _ _ _ _ _ us hl => match us, hl with | [_, _], _ => rfl
  have F7 := fun_mk (st := st__law_numbers) l7 c7 k7
  have B7 := F7.binds (ps := ["cell", "count", "limit"]) fun _ _ _ _ _ _ us hl => match us, hl with | [_, _, _], _ => rfl
  have F8 := fun_mk (st := st__law_same) l8 c8 k8
  have B8 := F8.binds (ps := ["told", "due"]) fun _ _ _ _ _ _ us hl => match us, hl with | [_, _], _ => rfl
  have F9 := fun_mk (st := st__law_quoted) l9 c9 k9
  have B9 := F9.binds (ps := ["text"]) fun _ _ _ _ _ _ us hl => match us, hl with | [_], _ => rfl
  have F10 := fun_mk (st := st__law_row) l10 c10 k10
  have B10 := F10.binds (ps := ["words"]) fun _ _ _ _ _ _ us hl => match us, hl with | [_], _ => rfl
  have F11 := fun_mk (st := st__law_words) l11 c11 k11
  have B11 := F11.binds (ps := ["row"]) fun _ _ _ _ _ _ us hl => match us, hl with | [_], _ => rfl
  have F12 := fun_mk (st := st__law_signs) l12 c12 k12
  have B12 := F12.binds (ps := ["draw", "count"]) fun _ _ _ _ _ _ us hl => match us, hl with | [_, _], _ => rfl
  have F13 := fun_mk (st := st__law_bent) l13 c13 k13
  have B13 := F13.binds (ps := ["text", "draws", "at"]) fun _ _ _ _ _ _ us hl => match us, hl with | [_, _, _], _ => rfl
  have F14 := fun_mk (st := st__law_asked) l14 c14 k14
  have B14 := F14.binds (ps := ["row"]) fun _ _ _ _ _ _ us hl => match us, hl with | [_], _ => rfl
  have F15 := fun_mk (st := st__law_due) l15 c15 k15
  have B15 := F15.binds (ps := ["row"]) fun _ _ _ _ _ _ us hl => match us, hl with | [_], _ => rfl
  have F16 := fun_mk (st := st_law) l16 c16 k16
  have B16 := F16.binds (ps := ["script"]) fun _ _ _ _ _ _ us hl => match us, hl with | [_], _ => rfl
  let T : Top w K mg := {
    a_write_text := f0, d_write_text := _, f_write_text := F0, g_write_text := PySem.W.mg_of X G a0, b_write_text := B0,
    a_demand := f1, d_demand := _, f_demand := F1, g_demand := PySem.W.mg_of X G a1, b_demand := B1,
    a_quoted_from := f2, d_quoted_from := _, f_quoted_from := F2, g_quoted_from := PySem.W.mg_of X G a2, b_quoted_from := B2,
    a_plain_from := f3, d_plain_from := _, f_plain_from := F3, g_plain_from := PySem.W.mg_of X G a3, b_plain_from := B3,
    a_words_of := f4, d_words_of := _, f_words_of := F4, g_words_of := PySem.W.mg_of X G a4, b_words_of := B4,
    a_row_of := f5, d_row_of := _, f_row_of := F5, g_row_of := PySem.W.mg_of X G a5, b_row_of := B5,
    a__law_cell := f6, d__law_cell := _, f__law_cell := F6, g__law_cell := PySem.W.mg_of X G a6, b__law_cell := B6,
    a__law_numbers := f7, d__law_numbers := _, f__law_numbers := F7, g__law_numbers := PySem.W.mg_of X G a7, b__law_numbers := B7,
    a__law_same := f8, d__law_same := _, f__law_same := F8, g__law_same := PySem.W.mg_of X G a8, b__law_same := B8,
    a__law_quoted := f9, d__law_quoted := _, f__law_quoted := F9, g__law_quoted := PySem.W.mg_of X G a9, b__law_quoted := B9,
    a__law_row := f10, d__law_row := _, f__law_row := F10, g__law_row := PySem.W.mg_of X G a10, b__law_row := B10,
    a__law_words := f11, d__law_words := _, f__law_words := F11, g__law_words := PySem.W.mg_of X G a11, b__law_words := B11,
    a__law_signs := f12, d__law_signs := _, f__law_signs := F12, g__law_signs := PySem.W.mg_of X G a12, b__law_signs := B12,
    a__law_bent := f13, d__law_bent := _, f__law_bent := F13, g__law_bent := PySem.W.mg_of X G a13, b__law_bent := B13,
    a__law_asked := f14, d__law_asked := _, f__law_asked := F14, g__law_asked := PySem.W.mg_of X G a14, b__law_asked := B14,
    a__law_due := f15, d__law_due := _, f__law_due := F15, g__law_due := PySem.W.mg_of X G a15, b__law_due := B15,
    a_law := fa, d_law := _, f_law := F16, g_law := PySem.W.mg_of X G a16, b_law := B16,
    z_len := PySem.W.mg_none_of X G z_len,
    z_all := PySem.W.mg_none_of X G z_all,
    z_isinstance := PySem.W.mg_none_of X G z_isinstance,
    z_str := PySem.W.mg_none_of X G z_str,
    z_int := PySem.W.mg_none_of X G z_int,
    z_range := PySem.W.mg_none_of X G z_range,
    z_list := PySem.W.mg_none_of X G z_list,
    z_tuple := PySem.W.mg_none_of X G z_tuple,
    z_bool := PySem.W.mg_none_of X G z_bool,
    c_TEXT := ⟨_, PySem.W.mg_of X G z_TEXT⟩,
    c_QUOTE := ⟨_, PySem.W.mg_of X G z_QUOTE⟩,
    d_ESCAPES := d_ESCAPES, g_ESCAPES := PySem.W.mg_of X G g_ESCAPES, t_ESCAPES := ⟨⟨_, _, ⟨q_ESCAPES, qk_ESCAPES, qo_ESCAPES⟩, qm_ESCAPES⟩, fun p hp => by
      simp only [dict_ESCAPES, List.mem_cons, List.not_mem_nil, or_false] at hp
      rcases hp with rfl | rfl | rfl
      · exact ⟨_, v_ESCAPES0⟩
      · exact ⟨_, v_ESCAPES1⟩
      · exact ⟨_, v_ESCAPES2⟩⟩,
    k_InvalidText := ⟨C_InvalidText, PySem.W.mg_of X G gc_InvalidText, r1_InvalidText, r2_InvalidText, r3_InvalidText⟩, x_InvalidText := r4_InvalidText,
    e_InvalidText := exm_self r2_InvalidText s2_InvalidText r3_InvalidText s1_InvalidText, i_InvalidText := ⟨s2_InvalidText, s3_InvalidText, ⟨_, s4_InvalidText⟩, r2_InvalidText, s5_InvalidText, s6_InvalidText, s7_InvalidText, s8_InvalidText⟩, C_BuildError := C_BuildError, m_BuildError := PySem.W.mg_of X G gc_BuildError, C_InvalidTree := C_InvalidTree, m_InvalidTree := PySem.W.mg_of X G gc_InvalidTree, y_InvalidText := kit_sub s1_InvalidText y1_InvalidText y2_InvalidText y3_InvalidText, n_InvalidText := kit_sub s1_InvalidText z1_InvalidText z2_InvalidText z3_InvalidText }
  exact ⟨PySem.W.fnOf "law" "law" (defArgs st_law) (defBody st_law) (defScope st_law) .none kV16 dc16 pm16 an16 cd16 ct16, fun s v => .of_eq rfl, fun base _ _ => FnOk.imp (ok_law T) (law_sp (mg := mg))⟩
end PL
open PySem PySem.W PyProof.Rows
set_option maxHeartbeats 0 in
theorem PySem.Challenge.cw_asifanew_k55_rows_of_words_holds : PySem.Challenge.rw_asifanew_k55_rows_of_words.Holds := by
  w_on; o_law; k_head; (case hw => w_witness2)
  k_fill
  refine L2.walk_of (l := PySem.Challenge.rw_asifanew_k55_rows_of_words) (n := 63) (k := 5) (x := "script") (CX := fun w => L2.CX PySem.Challenge.rw_asifanew_k55_rows_of_words.prog w) (sp := fun w => PL.spLaw _) rfl (by decide) rfl ⟨rfl, by decide, by decide⟩ (fun w h Y => PySem.W.kIn_of Y) ?F (fun _ _ a ns hl _ hS => ⟨a, ns, rfl, hS, fun _ => rfl⟩) (fun _ _ _ _ _ h => by
    obtain ⟨_, _, _, _, _, _, _, _, _, _, _, _, z⟩ := h
    exact z)
  case F =>
    intro w mg fa h KX G hmg
    refine' PL.all_mk KX G hmg ?a0 ?l0 ?c0 ?k0 ?a1 ?l1 ?c1 ?k1 ?a2 ?l2 ?c2 ?k2 ?a3 ?l3 ?c3 ?k3 ?a4 ?l4 ?c4 ?k4 ?a5 ?l5 ?c5 ?k5 ?a6 ?l6 ?c6 ?k6 ?a7 ?l7 ?c7 ?k7 ?a8 ?l8 ?c8 ?k8 ?a9 ?l9 ?c9 ?k9 ?a10 ?l10 ?c10 ?k10 ?a11 ?l11 ?c11 ?k11 ?a12 ?l12 ?c12 ?k12 ?a13 ?l13 ?c13 ?k13 ?a14 ?l14 ?c14 ?k14 ?a15 ?l15 ?c15 ?k15 ?a16 ?l16 ?c16 ?k16 ?z_len ?z_all ?z_isinstance ?z_str ?z_int ?z_range ?z_list ?z_tuple ?z_bool ?z_TEXT ?z_QUOTE ?g_ESCAPES ?q_ESCAPES ?qk_ESCAPES ?qo_ESCAPES ?qm_ESCAPES ?v_ESCAPES0 ?v_ESCAPES1 ?v_ESCAPES2 ?gc_InvalidText ?gc_BuildError ?gc_InvalidTree ?r1_InvalidText ?r2_InvalidText ?r3_InvalidText ?r4_InvalidText ?s1_InvalidText ?s2_InvalidText ?s3_InvalidText ?s4_InvalidText ?s5_InvalidText ?s6_InvalidText ?s7_InvalidText ?s8_InvalidText ?y1_InvalidText ?y2_InvalidText ?y3_InvalidText ?z1_InvalidText ?z2_InvalidText ?z3_InvalidText
    (case a0 => k_is)
    (case l0 => k_is)
    (case c0 => k_is)
    (case k0 => k_is)
    (case a1 => k_is)
    (case l1 => k_is)
    (case c1 => k_is)
    (case k1 => k_is)
    (case a2 => k_is)
    (case l2 => k_is)
    (case c2 => k_is)
    (case k2 => k_is)
    (case a3 => k_is)
    (case l3 => k_is)
    (case c3 => k_is)
    (case k3 => k_is)
    (case a4 => k_is)
    (case l4 => k_is)
    (case c4 => k_is)
    (case k4 => k_is)
    (case a5 => k_is)
    (case l5 => k_is)
    (case c5 => k_is)
    (case k5 => k_is)
    (case a6 => k_is)
    (case l6 => k_is)
    (case c6 => k_is)
    (case k6 => k_is)
    (case a7 => k_is)
    (case l7 => k_is)
    (case c7 => k_is)
    (case k7 => k_is)
    (case a8 => k_is)
    (case l8 => k_is)
    (case c8 => k_is)
    (case k8 => k_is)
    (case a9 => k_is)
    (case l9 => k_is)
    (case c9 => k_is)
    (case k9 => k_is)
    (case a10 => k_is)
    (case l10 => k_is)
    (case c10 => k_is)
    (case k10 => k_is)
    (case a11 => k_is)
    (case l11 => k_is)
    (case c11 => k_is)
    (case k11 => k_is)
    (case a12 => k_is)
    (case l12 => k_is)
    (case c12 => k_is)
    (case k12 => k_is)
    (case a13 => k_is)
    (case l13 => k_is)
    (case c13 => k_is)
    (case k13 => k_is)
    (case a14 => k_is)
    (case l14 => k_is)
    (case c14 => k_is)
    (case k14 => k_is)
    (case a15 => k_is)
    (case l15 => k_is)
    (case c15 => k_is)
    (case k15 => k_is)
    (case a16 => k_is)
    (case l16 => k_is)
    (case c16 => k_is)
    (case k16 => k_is)
    (case z_len => k_is)
    (case z_all => k_is)
    (case z_isinstance => k_is)
    (case z_str => k_is)
    (case z_int => k_is)
    (case z_range => k_is)
    (case z_list => k_is)
    (case z_tuple => k_is)
    (case z_bool => k_is)
    (case z_TEXT => k_is)
    (case z_QUOTE => k_is)
    (case g_ESCAPES => k_is)
    (case q_ESCAPES => k_is)
    (case qk_ESCAPES => k_keys)
    (case qo_ESCAPES => decide)
    (case qm_ESCAPES => rfl)
    (case v_ESCAPES0 => k_is)
    (case v_ESCAPES1 => k_is)
    (case v_ESCAPES2 => k_is)
    (case gc_InvalidText => k_is)
    (case gc_BuildError => k_is)
    (case gc_InvalidTree => k_is)
    (case r1_InvalidText => k_is)
    (case r2_InvalidText => k_is)
    (case r3_InvalidText => k_is)
    (case r4_InvalidText => k_exc)
    (case s1_InvalidText => first | rfl | k_is)
    (case s2_InvalidText => k_is)
    (case s3_InvalidText => k_is)
    (case s4_InvalidText => k_is)
    (case s5_InvalidText => k_is)
    (case s6_InvalidText => k_is)
    (case s7_InvalidText => k_is)
    (case s8_InvalidText => k_is)
    (case y1_InvalidText => k_is)
    (case y2_InvalidText => k_is)
    (case y3_InvalidText => k_is)
    (case z1_InvalidText => k_is)
    (case z2_InvalidText => k_is)
    (case z3_InvalidText => k_is)
