import PyProof.Rows.All
import Wide.All
import OpenK.AllK
import Wide.FinOn
import HandS.ForMost
import HandS.Exc
import HandS.Wide
import HandS.Defaults
import HandS.IsInst
import HandS.TupAny
import HandS.WordsExc
import KE.KIsAll
import HandS.Deep
import HandS.More
import HandS.Conv
import HandS.Finally
import HandS.Replace
import HandS.SortInts
import HandS.FStr
import HandS.DictComp
import HandS.DictEq
import KE.KEqDict
import KE.KCallOwn
import PyProof.InstNe
import PyProof.Rows.TmSorted
import HandS.Flow
import HandS.Style
import HandS.Ends
import HandS.Head0
import HandS.Head1
import HandS.Head2
import HandS.HeadEnd
import HandS.HeadHook1
import HandS.HeadHook2
import HandS.HeadHook3
import HandS.HeadHook4
import HandS.WordsDict
import PyProof.Rows.SortStr
import PySem.Challenge.RW_peersmeet_k24_wrongs_seen_and_forgotten
set_option Elab.async false
set_option linter.all false
set_option maxRecDepth 100000
set_option maxHeartbeats 4000000
namespace WR
open PySem PySem.Spec PyProof.Rows L2

abbrev St := L2.St
/-! ## 1. the tracked view of an object -/
def absVs : List Value → Option (List V)
  | [] => some []
  | u :: us => match absV u, absVs us with
    | some v, some vs => some (v :: vs)
    | _, _ => none
theorem absV_rel {u : Value} {v : V} (h : absV u = some v) : RelV v u := by
  cases u <;> simp [absV] at h <;> subst h <;> first | rfl | exact ⟨_, rfl⟩
theorem absVs_rel : ∀ {us : List Value} {vs : List V}, absVs us = some vs → Vals vs us
  | [], vs, h => by cases h; exact .nil
  | u :: us, vs, h => by
    unfold absVs at h
    cases e1 : absV u with
    | none => rw [e1] at h; simp at h
    | some v =>
      cases e2 : absVs us with
      | none => rw [e1, e2] at h; simp at h
      | some w => rw [e1, e2] at h; cases h; exact .cons (absV_rel e1) (absVs_rel e2)

/-- a list or tuple of the written part -/
def kobj (K : PySem.W.Frag) (a : Addr) : Option HO :=
  match K.lookup a with
  | some o => match o.data with
    | .seq its _ => if its.size ≤ sizeLine then
        match absVs its.toList with
        | some vs => if (o.cls == .type "list") = true ∧ o.dict = none then some (.lst vs) else if (o.cls == .type "tuple") = true then some (.tup vs) else none
        | none => none
      else none
    | _ => none
  | none => none
/-- what is to be read at a -/
def look (K : PySem.W.Frag) (H : Hp) (a : Addr) : Option HO :=
  match H a with
  | some (.frz _ u) => some u
  | some o => some o
  | none => kobj K a

theorem kobj_lst {K : PySem.W.Frag} {H : Hp} {a : Addr} {xs : List V} (h : kobj K a = some (.lst xs)) : SqL K H a xs := by
  unfold kobj at h
  split at h
  · rename_i o ho
    split at h
    · rename_i its n hd
      split at h
      · rename_i hz
        split at h
        · rename_i vs hv
          split at h
          · rename_i hc
            cases h
            exact .inr ⟨o, its, n, ho, beq_iff_eq.mp hc.1, hc.2, hd, hz, absVs_rel hv⟩
          · split at h <;> cases h
        · cases h
      · cases h
    · cases h
  · cases h
theorem kobj_tup {K : PySem.W.Frag} {H : Hp} {a : Addr} {xs : List V} (h : kobj K a = some (.tup xs)) : SqT K H a xs := by
  unfold kobj at h
  split at h
  · rename_i o ho
    split at h
    · rename_i its n hd
      split at h
      · rename_i hz
        split at h
        · rename_i vs hv
          split at h
          · cases h
          · split at h
            · rename_i hc
              cases h
              exact .inr ⟨o, its, n, ho, beq_iff_eq.mp hc, hd, hz, absVs_rel hv⟩
            · cases h
        · cases h
      · cases h
    · cases h
  · cases h
theorem look_rd {K : PySem.W.Frag} {H : Hp} {a : Addr} {u : HO} (h : look K H a = some u) : Rd H a u ∨ (H a = none ∧ kobj K a = some u) := by
  unfold look at h
  split at h
  · rename_i o v e; cases h; exact .inl (.inr ⟨_, e⟩)
  · rename_i o hn e; cases h; exact .inl (.inl e)
  · rename_i e; exact .inr ⟨e, h⟩
theorem look_lst {K : PySem.W.Frag} {H : Hp} {a : Addr} {xs : List V} (h : look K H a = some (.lst xs)) : SqL K H a xs := by
  rcases look_rd h with r | ⟨_, r⟩
  · exact .inl r
  · exact kobj_lst r
theorem look_tup {K : PySem.W.Frag} {H : Hp} {a : Addr} {xs : List V} (h : look K H a = some (.tup xs)) : SqT K H a xs := by
  rcases look_rd h with r | ⟨_, r⟩
  · exact .inl r
  · exact kobj_tup r
theorem kobj_no {K : PySem.W.Frag} {a : Addr} {u : HO} (h : kobj K a = some u) : (∃ xs, u = .lst xs) ∨ ∃ xs, u = .tup xs := by
  unfold kobj at h
  split at h
  · split at h
    · split at h
      · split at h
        · split at h
          · cases h; exact .inl ⟨_, rfl⟩
          · split at h
            · cases h; exact .inr ⟨_, rfl⟩
            · cases h
        · cases h
      · cases h
    · cases h
  · cases h
theorem look_dK {K : PySem.W.Frag} {H : Hp} {a : Addr} {kvs : List (Key × V)} (h : look K H a = some (.dK kvs)) : Rd H a (.dK kvs) := by
  rcases look_rd h with r | ⟨_, r⟩
  · exact r
  · rcases kobj_no r with ⟨_, e⟩ | ⟨_, e⟩ <;> cases e
theorem look_of {K : PySem.W.Frag} {H : Hp} {a : Addr} {u : HO} (h : H a = some u) (hu : ∀ o w, u ≠ .frz o w) : look K H a = some u := by
  unfold look
  rw [h]
  cases u <;> first | rfl | exact absurd rfl (hu _ _)
theorem look_of_lst {K : PySem.W.Frag} {H : Hp} {a : Addr} {xs : List V} (h : H a = some (.lst xs)) : look K H a = some (.lst xs) := look_of h fun _ _ z => nomatch z
theorem look_of_tup {K : PySem.W.Frag} {H : Hp} {a : Addr} {xs : List V} (h : H a = some (.tup xs)) : look K H a = some (.tup xs) := look_of h fun _ _ z => nomatch z
theorem look_of_dK {K : PySem.W.Frag} {H : Hp} {a : Addr} {kvs : List (Key × V)} (h : H a = some (.dK kvs)) : look K H a = some (.dK kvs) := look_of h fun _ _ z => nomatch z
theorem look_ne {K : PySem.W.Frag} {H : Hp} {a b : Addr} {o : HO} (h : b ≠ a) : look K (upd H a o) b = look K H b := by
  unfold look; rw [upd_ne h]
theorem look_same {K : PySem.W.Frag} {H : Hp} {a : Addr} {o : HO} (ho : ∀ u w, o ≠ .frz u w) : look K (upd H a o) a = some o := look_of upd_same ho

/-! ## 2. weakenings -/
section
variable {X : Cx}
theorem PE_imp {e : Expr} {t t' : TE} (h : PE X e t) (k : ∀ σ H Q, t' σ H Q → t σ H Q) : PE X e t' := ⟨fun pins s σ H Q I q => h.run pins s σ H Q I (k σ H Q q)⟩
theorem PT_imp {e : Expr} {t t' : TT} (h : PT X e t) (k : ∀ σ H Q, t' σ H Q → t σ H Q) : PT X e t' := ⟨fun pins s σ H Q I q => h.run pins s σ H Q I (k σ H Q q)⟩
theorem PS_imp {e : Stmt} {t t' : TS} (h : PS X e t) (k : ∀ D σ H, t' D σ H → t D σ H) : PS X e t' := ⟨fun pins s σ H D I q => h.run pins s σ H D I (k D σ H q)⟩
theorem PSs_imp {e : List Stmt} {t t' : TS} (h : PSs X e t) (k : ∀ D σ H, t' D σ H → t D σ H) : PSs X e t' := ⟨fun pins s σ H D I q => h.run pins s σ H D I (k D σ H q)⟩
theorem OpR_imp {f : Value → Value → Sem Value} {r r' : R2} (h : OpR X f r) (k : ∀ x y H Q, r' x y H Q → r x y H Q) : OpR X f r' := fun pins s σ H x y v u Q I rx ry q => h pins s σ H x y v u Q I rx ry (k x y H Q q)
theorem CallR_imp {f : Value} {r r' : List V → Hp → VK → Prop} (h : CallR X f r) (k : ∀ xs H Q, r' xs H Q → r xs H Q) : CallR X f r' := fun pins s σ H xs us Q I rx q => h pins s σ H xs us Q I rx (k xs H Q q)
theorem MtR_imp {id : String} {r r' : V → List V → Hp → VK → Prop} (h : MtR X id r) (k : ∀ x xs H Q, r' x xs H Q → r x xs H Q) : MtR X id r' := fun pins s σ H x xs v us Q I rx rs q => h pins s σ H x xs v us Q I rx rs (k x xs H Q q)
end

/-! ## 3. operators by values -/
def oAdd (K : PySem.W.Frag) : R2 := fun x y H Q => match x, y with
  | .int i, .int j => Q (.int (i + j)) H
  | .str a, .str b => a.length + b.length ≤ sizeLine ∧ Q (.str (a ++ b)) H
  | .ref p, .ref q => match H p, H q with
    | some (.lst xs), some (.lst ys) => xs.length + ys.length ≤ sizeLine ∧ ∀ n, H n = none → Q (.ref n) (upd H n (.lst (xs ++ ys)))
    | some (.tup xs), some (.tup ys) => xs.length + ys.length ≤ sizeLine ∧ (xs = [] → Q (.ref q) H) ∧ (xs ≠ [] → ys = [] → Q (.ref p) H) ∧ (xs ≠ [] → ys ≠ [] → ∀ n, H n = none → Q (.ref n) (upd H n (.tup (xs ++ ys))))
    | _, _ => False
  | _, _ => False
def oSub : R2 := fun x y H Q => match x, y with
  | .int i, .int j => Q (.int (i - j)) H
  | _, _ => False
def oMul : R2 := fun x y H Q => match x, y with
  | .int i, .int j => CMulW i j ∧ Q (.int (i * j)) H
  | _, _ => False
def oFdiv : R2 := fun x y H Q => match x, y with
  | .int i, .int j => CDivW i j ∧ Q (.int (i / j)) H
  | _, _ => False
def oMod : R2 := fun x y H Q => match x, y with
  | .int i, .int j => 0 < j ∧ Q (.int (i % j)) H
  | _, _ => False
def oPow : R2 := fun x y H Q => match x, y with
  | .int i, .int j => CPow i j ∧ Q (.int (i ^ j.toNat)) H
  | _, _ => False
def oShl : R2 := fun x y H Q => match x, y with
  | .int i, .int j => CPow i j ∧ Q (.int (i * 2 ^ j.toNat)) H
  | _, _ => False
def oLt : R2 := fun x y H Q => match x, y with
  | .int i, .int j => Q (.bl (decide (i < j))) H
  | .str a, .str b => Q (.bl (decide (a.cps.toList < b.cps.toList))) H
  | _, _ => False
def oLe : R2 := fun x y H Q => match x, y with
  | .int i, .int j => Q (.bl (decide (i ≤ j))) H
  | .str a, .str b => Q (.bl (!decide (b.cps.toList < a.cps.toList))) H
  | _, _ => False
def oGt : R2 := fun x y H Q => match x, y with
  | .int i, .int j => Q (.bl (decide (j < i))) H
  | .str a, .str b => Q (.bl (decide (b.cps.toList < a.cps.toList))) H
  | _, _ => False
def oGe : R2 := fun x y H Q => match x, y with
  | .int i, .int j => Q (.bl (decide (j ≤ i))) H
  | .str a, .str b => Q (.bl (!decide (a.cps.toList < b.cps.toList))) H
  | _, _ => False
def oEq (K : PySem.W.Frag) : R2 := fun x y H Q => (scal x y = true ∧ Q (.bl (decide (x = y))) H) ∨ rEqD K x y H Q
def oNe (K : PySem.W.Frag) : R2 := fun x y H Q => (scal x y = true ∧ Q (.bl (!decide (x = y))) H) ∨ rNeD K x y H Q
def oIs : R2 := fun x y H Q => y = .non ∧ Q (.bl (decide (x = .non))) H
def oIsNot : R2 := fun x y H Q => y = .non ∧ Q (.bl (!decide (x = .non))) H
section
variable {X : Cx}
theorem r_add : OpR X (binaryOp .Add) (oAdd X.K) := by
  refine OpR_imp (op_add.or (op_add_str.or (op_cat.or op_catA))) fun x y H Q h => ?_
  unfold oAdd at h
  split at h
  · exact .inl ⟨_, _, rfl, rfl, h⟩
  · exact .inr (.inl ⟨_, _, rfl, rfl, h.1, h.2⟩)
  · split at h
    · rename_i hp hq
      exact .inr (.inr (.inl ⟨_, _, _, _, rfl, rfl, hp, hq, h.1, h.2⟩))
    · rename_i hp hq
      exact .inr (.inr (.inr ⟨_, _, _, _, rfl, rfl, .of hp, .of hq, h.1, h.2.1, h.2.2.1, h.2.2.2⟩))
    · exact h.elim
  · exact h.elim
theorem r_sub : OpR X (binaryOp .Sub) oSub := OpR_imp op_sub fun x y H Q h => by
  unfold oSub at h
  split at h
  · exact ⟨_, _, rfl, rfl, h⟩
  · exact h.elim
theorem r_mul : OpR X (binaryOp .Mult) oMul := OpR_imp op_mulW fun x y H Q h => by
  unfold oMul at h
  split at h
  · exact ⟨_, _, rfl, rfl, h.1, h.2⟩
  · exact h.elim
theorem r_fdiv : OpR X (binaryOp .FloorDiv) oFdiv := OpR_imp op_fdivW fun x y H Q h => by
  unfold oFdiv at h
  split at h
  · exact ⟨_, _, rfl, rfl, h.1, h.2⟩
  · exact h.elim
theorem r_mod : OpR X (binaryOp .Mod) oMod := OpR_imp op_mod fun x y H Q h => by
  unfold oMod at h
  split at h
  · exact ⟨_, _, rfl, rfl, h.1, h.2⟩
  · exact h.elim
theorem r_pow : OpR X (binaryOp .Pow) oPow := OpR_imp op_pow fun x y H Q h => by
  unfold oPow at h
  split at h
  · exact ⟨_, _, rfl, rfl, h.1, h.2⟩
  · exact h.elim
theorem r_shl : OpR X (binaryOp .LShift) oShl := OpR_imp op_shl fun x y H Q h => by
  unfold oShl at h
  split at h
  · exact ⟨_, _, rfl, rfl, h.1, h.2⟩
  · exact h.elim
theorem r_lt : OpR X (compareOp .Lt) oLt := OpR_imp (op_lt.or op_lt_str) fun x y H Q h => by
  unfold oLt at h
  split at h
  · exact .inl ⟨_, _, rfl, rfl, h⟩
  · exact .inr ⟨_, _, rfl, rfl, h⟩
  · exact h.elim
theorem r_le : OpR X (compareOp .LtE) oLe := OpR_imp (op_le.or op_le_str) fun x y H Q h => by
  unfold oLe at h
  split at h
  · exact .inl ⟨_, _, rfl, rfl, h⟩
  · exact .inr ⟨_, _, rfl, rfl, h⟩
  · exact h.elim
theorem r_gt : OpR X (compareOp .Gt) oGt := OpR_imp (op_gt.or op_gt_str) fun x y H Q h => by
  unfold oGt at h
  split at h
  · exact .inl ⟨_, _, rfl, rfl, h⟩
  · exact .inr ⟨_, _, rfl, rfl, h⟩
  · exact h.elim
theorem r_ge : OpR X (compareOp .GtE) oGe := OpR_imp (op_ge.or op_ge_str) fun x y H Q h => by
  unfold oGe at h
  split at h
  · exact .inl ⟨_, _, rfl, rfl, h⟩
  · exact .inr ⟨_, _, rfl, rfl, h⟩
  · exact h.elim
theorem r_eq (hu : X.A.units + 64 < cLine) : OpR X (compareOp .Eq) (oEq X.K) := op_eq.or (op_eqD hu)
theorem r_ne (hu : X.A.units + 64 < cLine) : OpR X (compareOp .NotEq) (oNe X.K) := op_ne.or (op_neD hu)
theorem r_is : OpR X (compareOp .Is) oIs := op_isN
theorem r_isnot : OpR X (compareOp .IsNot) oIsNot := op_notN
end
end WR

set_option Elab.async false
set_option linter.all false
set_option maxRecDepth 100000
set_option maxHeartbeats 4000000
namespace WR
open PySem PySem.Spec PyProof.Rows L2

/-! ## 4. what the text's names mean -/
/-- a def of the module, called with n written values and the keywords ks; arr puts them (and the defaults) in the parameters' order -/
structure FnI where
  name : Str
  n : Nat
  ks : List Str
  arr : List V → List V → List V
  sp : Sp
/-- a method of the class at cls (n, ks, arr: behind self) -/
structure MtI where
  cls : Addr
  name : Str
  n : Nat
  ks : List Str
  arr : List V → List V → List V
  sp : Sp
/-- a class whose instances are made by an own __init__ (n, ks, arr: behind self) -/
structure MkI where
  name : Str
  cls : Addr
  n : Nat
  ks : List Str
  arr : List V → List V → List V
  sp : Sp
structure G where
  K : PySem.W.Frag
  fns : List FnI
  cons : List (Str × V)
  blt : List Str
  mts : List MtI
  mks : List MkI
  ats : List (Str × List Addr)
  nes : List (Str × Addr) := []

def basics : List String := ["NoneType", "bool", "int", "str", "list", "tuple", "dict"]
/-- what an own class must say, so that != and isinstance ask rightly -/
def ownB (K : PySem.W.Frag) (C : Addr) : Bool := decide (PySem.W.findIn K (.ref C) "__ne__" = some (some (.builtin "object.__ne__"))) && (decide (PySem.W.findIn K (.ref C) "__class__" = some (some (.builtin "object.__class__"))) &&
  (decide (PySem.W.specialIn K (.builtin "object.__class__") "__get__" = some (some (.builtin "getset_descriptor.__get__"))) && (decide (PySem.W.takesIn K (.builtin "object.__class__") = some true) && (decide (PySem.W.mroIn K C (.type "object") = some true) &&
  (decide (PySem.W.kitOne K (.ref C) (.ref C) = some true) && basics.all fun n => decide (PySem.W.kitOne K (.type n) (.ref C) = some false))))))
/-- .. and that they mean it -/
structure GOk (g : G) (P : Program) (w : World) (mg : Str → Option Value) (base : Heap) (lev : Nat) : Prop where
  fns : ∀ f ∈ g.fns, ∃ fa fd ps gf, mg f.name = some (.ref fa) ∧ PySem.W.keepIn g.K (.ref fa) = true ∧ FnOk P w g.K mg base (L2.CX P w) lev fa fd ps f.sp ∧ KBn g.K fd ps f.n f.ks gf f.arr
  cons : ∀ p ∈ g.cons, ∃ u, mg p.1 = some u ∧ RelV p.2 u
  blt : ∀ x ∈ g.blt, mg x = none
  mts : ∀ m ∈ g.mts, ∃ fa fd ps gf, Cls g.K m.cls ∧ Meth g.K m.cls m.name fa ∧ FnOk P w g.K mg base (L2.CX P w) lev fa fd ps m.sp ∧ KBn g.K fd ps (m.n + 1) m.ks gf (fun vs zs => match vs with | v :: r => v :: m.arr r zs | [] => [])
  mks : ∀ m ∈ g.mks, ∃ fa fd ps gf, mg m.name = some (.ref m.cls) ∧ Mk g.K m.cls fa ∧ FnOk P w g.K mg base (L2.CX P w) lev fa fd ps m.sp ∧ KBn g.K fd ps (m.n + 1) m.ks gf (fun vs zs => match vs with | v :: r => v :: m.arr r zs | [] => [])
  ats : ∀ p ∈ g.ats, ∀ C ∈ p.2, Cls g.K C ∧ NoAttr g.K C p.1
  nes : ∀ p ∈ g.nes, ownB g.K p.2 = true
  nec : ∀ p ∈ g.nes, Cls g.K p.2

/-- where an expression is read -/
structure COk (g : G) (lev : Nat) (X : Cx) (N : List Str) (sc : Scope) (W : WX) : Prop where
  gok : GOk g X.prog X.w X.mg X.base lev
  hK : X.K = g.K
  hN : X.N = N
  hsc : X.env.scope = sc
  nd : X.N.Nodup
  calm : X.calm = true
  tk : Takes X W
  room : Room (lev + 1) X.A

theorem COk.hu {g : G} {lev : Nat} {X : Cx} {N : List Str} {sc : Scope} {W : WX} (c : COk g lev X N sc W) : X.A.units + 64 < cLine := c.room.units
theorem COk.hu1 {g : G} {lev : Nat} {X : Cx} {N : List Str} {sc : Scope} {W : WX} (c : COk g lev X N sc W) : X.A.units + 1 < cLine := hu_of c.room
theorem COk.room0 {g : G} {lev : Nat} {X : Cx} {N : List Str} {sc : Scope} {W : WX} (c : COk g lev X N sc W) : Room lev X.A := c.room.mono (Nat.le_succ _)

/-! ## 5. names -/
def ix? : List Str → Str → Option Nat
  | [], _ => none
  | y :: r, x => if decide (y = x) = true then some 0 else (ix? r x).map (· + 1)
theorem ix_get : ∀ {N : List Str} {x : Str} {i : Nat}, ix? N x = some i → N[i]? = some x
  | [], x, i, h => by cases h
  | y :: r, x, i, h => by
    unfold ix? at h
    split at h
    · rename_i e; cases h; simp [of_decide_eq_true e]
    · cases e : ix? r x with
      | none => rw [e] at h; cases h
      | some j => rw [e] at h; cases h; simpa using ix_get e
def plainName (x : Str) : Bool := !(x == ("__debug__" : Str)) && (!(x == ("__classdict__" : Str)) && !decide (x = "__name__"))
theorem plain_d {x : Str} (h : plainName x = true) : (x == ("__debug__" : Str)) = false := by unfold plainName at h; simp only [Bool.and_eq_true, Bool.not_eq_true'] at h; exact h.1
theorem plain_c {x : Str} (h : plainName x = true) : (x == ("__classdict__" : Str)) = false := by unfold plainName at h; simp only [Bool.and_eq_true, Bool.not_eq_true'] at h; exact h.2.1
theorem plain_n {x : Str} (h : plainName x = true) : x ≠ "__name__" := by unfold plainName at h; simp only [Bool.and_eq_true, Bool.not_eq_true', decide_eq_false_iff_not] at h; exact h.2.2

def cVar (i : Nat) : TE := fun σ H Q => match σ[i]? with
  | some (some v) => Q v H
  | _ => False
/-- the built-in classes as values -/
def bltTy (x : Str) : Option String := match bootBuiltins x with
  | some (.type n) => some n
  | _ => none
theorem bltTy_boot {x : Str} {n : String} (h : bltTy x = some n) : bootBuiltins x = some (.type n) := by
  unfold bltTy at h
  split at h
  · rename_i e; cases h; exact e
  · cases h
def tName (g : G) (N : List Str) (sc : Scope) (x : Str) : Option TE :=
  if plainName x = true then
    match sc.names.lookup x with
    | some .local | some .cell | some .free => (ix? N x).map cVar
    | some .globalImplicit => match g.cons.lookup x with
      | some v => some (tC v)
      | none => if x ∈ g.blt then (bltTy x).map fun n => tC (.ty n) else none
    | _ => none
  else none

section
variable {g : G} {lev : Nat} {X : Cx} {N : List Str} {sc : Scope} {W : WX}
theorem cVar_ok {i : Nat} {x : Str} {pos : Pos} (hN : X.N[i]? = some x) (hv : Vis X.env.scope x) (h1 : plainName x = true) : PE X (.Name x pos) (cVar i) :=
  PE_imp (pe_var hN hv (plain_d h1) (plain_c h1)) fun σ H Q q => by
    unfold cVar at q
    split at q
    · rename_i v e; exact ⟨v, e, q⟩
    · exact q.elim
theorem lookup_mem {α : Type} : ∀ {l : List (Str × α)} {x : Str} {v : α}, l.lookup x = some v → (x, v) ∈ l := fun h => PySem.mem_of_lookup h
theorem tName_ok {x : Str} {pos : Pos} {t : TE} (h : tName g N sc x = some t) (c : COk g lev X N sc W) : PE X (.Name x pos) t := by
  unfold tName at h
  split at h
  · rename_i hp
    have vis : ∀ k, sc.names.lookup x = some k → (k = .local ∨ k = .cell ∨ k = .free) → (ix? N x).map cVar = some t → PE X (.Name x pos) t := fun k hk hkk h => by
      cases e : ix? N x with
      | none => rw [e] at h; cases h
      | some i =>
        rw [e] at h; cases h
        refine cVar_ok (by rw [c.hN]; exact ix_get e) ?_ hp
        unfold Vis
        rw [c.hsc, hk]
        rcases hkk with rfl | rfl | rfl <;> simp
    split at h
    · rename_i e; exact vis _ e (by simp) h
    · rename_i e; exact vis _ e (by simp) h
    · rename_i e; exact vis _ e (by simp) h
    · rename_i e
      have hg : Gl X x := by unfold Gl Env.kindOf; rw [c.hsc]; exact e
      split at h
      · rename_i v ev
        cases h
        obtain ⟨u, h1, h2⟩ := c.gok.cons _ (lookup_mem ev)
        exact pe_glob hg h1 h2 (plain_d hp)
      · split at h
        · rename_i hb
          cases e2 : bltTy x with
          | none => rw [e2] at h; cases h
          | some n =>
            rw [e2] at h; cases h
            exact pe_bltn hg (c.gok.blt x hb) (bltTy_boot e2) (v := .ty n) rfl (plain_n hp) (plain_d hp)
        · cases h
    · cases h
  · cases h
end

/-! ## 6. argument lists -/
def notStar : Expr → Bool
  | .Starred _ _ => false
  | _ => true
theorem star_of {e : Expr} {es : List Expr} {env : Env} (h : notStar e = true) : starEach (e :: es) env = (false, eval e env) :: starEach es env := by
  cases e <;> first | rfl | exact absurd h Bool.false_ne_true
theorem star_all : ∀ {es : List Expr} {env : Env} {pos : Pos}, es.all notStar = true → (backTo pos (starEach es env)).any (·.1) = false
  | [], _, _, _ => rfl
  | e :: es, env, pos, h => by
    rw [List.all_cons, Bool.and_eq_true] at h
    rw [star_of h.1]
    show (false || (backTo pos (starEach es env)).any (·.1)) = false
    rw [star_all h.2]; rfl
theorem star_all' : ∀ {es : List Expr} {env : Env} {pos : Pos}, es.all notStar = true → (backTo pos (starEach es env)).all (fun x => !x.1) = true
  | [], _, _, _ => rfl
  | e :: es, env, pos, h => by
    rw [List.all_cons, Bool.and_eq_true] at h
    rw [star_of h.1]
    show (true && (backTo pos (starEach es env)).all (fun x => !x.1)) = true
    rw [star_all' h.2]; rfl
def kwNames : List Keyword → Option (List Str)
  | [] => some []
  | ⟨some x, _, _⟩ :: r => (kwNames r).map (x :: ·)
  | ⟨none, _, _⟩ :: _ => none
theorem kw_all : ∀ {kws : List Keyword} {ks : List Str} {env : Env} {pos : Pos}, kwNames kws = some ks →
    (backToKw pos (keywordEach kws env)).all (·.1.isSome) = true ∧ (backToKw pos (keywordEach kws env)).any (·.1.isNone) = false ∧ (backToKw pos (keywordEach kws env)).filterMap (·.1) = ks ∧ ks.length = kws.length
  | [], ks, _, _, h => by cases h; exact ⟨rfl, rfl, rfl, rfl⟩
  | ⟨some x, v, p⟩ :: r, ks, env, pos, h => by
    unfold kwNames at h
    cases e : kwNames r with
    | none => rw [e] at h; cases h
    | some l =>
      rw [e] at h; cases h
      obtain ⟨h1, h2, h3, h4⟩ := kw_all (env := env) (pos := pos) e
      refine ⟨?_, ?_, ?_, by simp [h4]⟩
      · show (true && (backToKw pos (keywordEach r env)).all (·.1.isSome)) = true
        rw [h1]; rfl
      · show (false || (backToKw pos (keywordEach r env)).any (·.1.isNone)) = false
        rw [h2]; rfl
      · show x :: (backToKw pos (keywordEach r env)).filterMap (·.1) = x :: l
        rw [h3]
  | ⟨none, _, _⟩ :: _, _, _, _, h => by cases h

/-! ## 7. calls of own defs -/
section
variable {X : Cx} {lev : Nat} {fa : Addr} {fd : FuncData} {ps ks : List Str} {sp : Sp} {x : Str} {n : Nat} {p pos apos : Pos} {es : List Expr} {kws : List Keyword} {t tk : TA} {gf : List Value → List Value → List Value} {arr : List V → List V → List V} {W : WX}
theorem run_own {pins : List (Addr × Obj)} {σ : St} {H : Hp} {s : Shared} {Q : VK} {us ws : List Value} {vs zs : List V} (F : FnOk X.prog X.w X.K X.mg X.base (L2.CX X.prog X.w) lev fa fd ps sp) (hr : Room lev X.A) (hb : KBn X.K fd ps n ks gf arr) (tkx : Takes X W)
    (I : Inv X pins σ H s) (r : Vals vs us) (rz : Vals zs ws) (l1 : vs.length = n) (l2 : zs.length = ks.length) (h : sp (arr vs zs) H Q (fun cls d H' => W cls d σ H')) : wpAny (model X.prog X.w) X.A (call (.ref fa) us (ks.zip ws)) (EP X pins σ Q) X.xe s := by
  have r2 := hb.rel r rz
  refine wpAny_call (codeAny_mono (F.run X.A X.stack s H ⟨us, ks.zip ws⟩ (gf us ws) (arr vs zs) Q _ hr I.env0 (hb.to s us ws I.kIn (r.length.symm.trans l1) (rz.length.symm.trans l2)) r2 h) fun r s' hq => ?_)
  cases r with
  | error e => exact tkx e s' (XE.of_call I (fun _ _ _ h => h) hq)
  | ok fl =>
    cases fl with
    | ret u => exact I.after hq
    | next => exact False.elim hq
    | brk => exact False.elim hq
    | cont => exact False.elim hq
def cCall (sp : Sp) (n m : Nat) (arr : List V → List V → List V) (t tk : TA) (W : WX) : TE := fun σ H Q => t σ H fun vs H1 => tk σ H1 fun zs H2 => vs.length = n ∧ zs.length = m ∧ sp (arr vs zs) H2 Q (fun cls d H' => W cls d σ H')
/-- what is called keeps its arguments in a plain way -/
def Keeps (X : Cx) (f : Value) : Prop := ∀ h : Heap, X.K.In h → ∃ k, (k = Keeper.frame ∨ k = Keeper.machine ∨ k = Keeper.boundFrame) ∧ PySem.W.Looks (model X.prog X.w) h (keeperOf f) k
theorem keeps_ref {f : Value} (hk : PySem.W.keepIn X.K f = true) : Keeps X f := fun h k => PySem.W.keeps_K hk h k
theorem keeps_blt {id : String} : Keeps X (.builtin id) := fun h k => ⟨.machine, by simp, PySem.W.Looks.of_pure rfl⟩
theorem keeps_ty {T : String} : Keeps X (.type T) := fun h k => ⟨.machine, by simp, PySem.W.Looks.of_pure rfl⟩
/-- values of the arguments, then of the keywords, of any call -/
theorem args_of {f : Value} {first : List Value} {pins : List (Addr × Obj)} {s : Shared} {σ : St} {H : Hp} {Q : Value → Shared → Prop} {R : List V → List V → Hp → Prop}
    (hk : Keeps X f) (hnil : es = [] → t = tNil) (hstar : es.all notStar = true) (hkw : kwNames kws = some ks) (ha : PA X es t) (hw : PK X kws tk) (I : Inv X pins σ H s)
    (q : t σ H fun vs H1 => tk σ H1 fun zs H2 => R vs zs H2)
    (hf : ∀ vs zs us ws s2 H2, Inv X pins σ H2 s2 → Vals vs us → Vals zs ws → R vs zs H2 → wpAny (model X.prog X.w) X.A (call f (first ++ us) (ks.zip ws)) Q X.xe s2) :
    wpAny (model X.prog X.w) X.A (callWith pos f first (backTo pos (starEach es X.env)) (backToKw pos (keywordEach kws X.env))) Q X.xe s := by
  obtain ⟨k1, k2, k3, k4⟩ := kw_all (env := X.env) (pos := pos) hkw
  cases es with
  | nil =>
    refine PySem.W.callWith_of (P := X.K.In) (by rw [k2]; rfl) hk (PyProof.Rows.evalArgs_kw2_nil k1 ?_)
    rw [hnil rfl] at q
    refine thn (hw.run pos pins s σ H _ I q) fun ws s2 ⟨zs, H2, I2, rz, q2⟩ => ⟨I2.kIn, ?_⟩
    rw [k3]
    exact hf [] zs [] ws s2 H2 I2 .nil rz q2
  | cons e es =>
    rw [List.all_cons, Bool.and_eq_true] at hstar
    refine PySem.W.callWith_of (P := X.K.In) ?_ hk (PyProof.Rows.evalArgs_kw2 k1 ?_ (star_of hstar.1))
    rotate_left
    · refine thn (ha.run pos pins s σ H _ I q) fun us s1 ⟨vs, H1, I1, r, q1⟩ => ?_
      refine thn (hw.run pos pins s1 σ H1 _ I1 q1) fun ws s2 ⟨zs, H2, I2, rz, q2⟩ => ⟨I2.kIn, ?_⟩
      rw [k3]
      exact hf vs zs us ws s2 H2 I2 r rz q2
    · rw [k2, star_all (by rw [List.all_cons, hstar.1, hstar.2]; rfl)]; rfl

/-- f(..) -/
theorem pe_own (F : FnOk X.prog X.w X.K X.mg X.base (L2.CX X.prog X.w) lev fa fd ps sp) (hr : Room lev X.A) (hb : KBn X.K fd ps n ks gf arr) (tkx : Takes X W) (hg : Gl X x) (hm : X.mg x = some (.ref fa)) (hk : PySem.W.keepIn X.K (.ref fa) = true)
    (hx : plainName x = true) (hnil : es = [] → t = tNil) (hstar : es.all notStar = true) (hkw : kwNames kws = some ks) (ha : PA X es t) (hw : PK X kws tk) : PE X (.Call (.Name x p) es kws pos) (cCall sp n ks.length arr t tk W) := by
  refine ⟨fun pins s σ H Q I h => ?_⟩
  refine wpAny_Call_Name_kw (ld_glob I hg hm ?_ (plain_d hx))
  refine args_of (first := []) (R := fun vs zs H2 => vs.length = n ∧ zs.length = ks.length ∧ sp (arr vs zs) H2 Q (fun cls d H' => W cls d σ H')) (keeps_ref hk) hnil hstar hkw ha hw I h fun vs zs us ws s2 H2 I2 r rz q => ?_
  exact run_own F hr hb tkx I2 r rz q.1 q.2.1 q.2.2
end

/-! ## 8. method calls: any receiver -/
def baseOk : Expr → Bool
  | .Call (.Name _ _) [] [] _ => false
  | _ => true
theorem base_of {o : Expr} {a : Str} {env : Env} {w : Sem Value} (h : baseOk o = true) : attributeBase o a env w = w := by
  unfold attributeBase
  split
  · exact absurd h Bool.false_ne_true
  · rfl
section
variable {prog : Program} {w : World} {A : Around} {E : Value → Shared → Prop} {s : Shared}
theorem meth_gen {o : Expr} {name : Str} {apos pos : Pos} {es : List Expr} {kws : List Keyword} {ks : List Str} {env : Env} {Q : Value → Shared → Prop} (hb : baseOk o = true) (hstar : es.all notStar = true) (hkw : kwNames kws = some ks) (hfew : es.length + kws.length < 29)
    (hline : (apos.endLine == pos.line) = true)
    (h : wpAny (model prog w) A (eval o env) (fun ov s₁ => ∀ pl, wpAny (model prog w) A (getMethod ov name pl) (fun fx s₂ => wpAny (model prog w) A (callWith pos fx.1 fx.2 (backTo pos (starEach es env)) (backToKw pos (keywordEach kws env))) Q E s₂) E s₁) E s) :
    wpAny (model prog w) A (eval (.Call (.Attribute o name apos) es kws pos) env) Q E s := by
  rw [arm_eval_Call, base_of hb]
  refine wpAny_bind (wpAny_mono h (fun ov s₁ h₁ => ?_) fun _ _ e => e)
  refine wpAny_bind (wpAny_standAt ?_)
  obtain ⟨k1, k2, k3, k4⟩ := kw_all (env := env) (pos := pos) hkw
  have hform : methodCallForm (es.length + kws.length) (backTo pos (starEach es env)) (backToKw pos (keywordEach kws env)) = true := by
    unfold methodCallForm
    rw [star_all' hstar, k1]
    simp only [Bool.true_and, decide_eq_true_eq]
    split <;> omega
  have hpos : methodCallPos true o env apos pos = pure pos := by unfold methodCallPos; simp [hline]
  unfold methodCall
  rw [hform]
  refine wpAny_bind (wpAny_holding ?_)
  unfold calleeOf
  rw [if_pos rfl]
  refine wpAny_mono (h₁ _) (fun fx s₂ h₂ => ?_) fun _ _ e => e
  exact wpAny_bind (wpAny_of_eq hpos h₂)
end

/-! ### what a built-in's method does -/
/-- the methods of built-in types that are carried: type, name -/
structure BM where
  T : String
  name : Str
  id : String
  r : V → List V → Hp → VK → Prop
/-- .. rightly, where X is -/
structure BMOk (X : Cx) (b : BM) : Prop where
  pa : PlainAttrs b.T
  slot : Slot b.T b.name b.id
  ty : typeOf (.builtin b.id) = pure (.type "method_descriptor")
  run : MtR X b.id b.r
end WR

set_option Elab.async false
set_option linter.all false
set_option maxRecDepth 100000
set_option maxHeartbeats 4000000
namespace WR
open PySem PySem.Spec PyProof.Rows L2

/-! ## 9. subscripts, slices, in -/
def keyOf : V → Option Key
  | .int i => some (.inl i)
  | .str s => some (.inr s)
  | _ => none
theorem keyOf_kV {y : V} {k : Key} (h : keyOf y = some k) : y = kV k := by
  cases y <;> cases h <;> rfl
/-- a dict's look at a key -/
def oGet (H : Hp) (p : Addr) (y : V) (R : Option V → Prop) : Prop := match H p with
  | some (.dK kvs) | some (.frz _ (.dK kvs)) => (match keyOf y with
      | some k => R (valV kvs k)
      | none => False)
  | some (.dT kvs) | some (.frz _ (.dT kvs)) => ∃ k b, y = .ref b ∧ H b = some (.tup (k.map kV)) ∧ R (valV kvs k)
  | _ => False
theorem oGet_dget {H : Hp} {p : Addr} {y : V} {R : Option V → Prop} (h : oGet H p y R) : ∃ o, DGet H p y o ∧ R o := by
  unfold oGet at h
  split at h
  · rename_i kvs e
    split at h
    · rename_i k ek
      exact ⟨_, .inl ⟨kvs, k, .inl e, keyOf_kV ek, rfl⟩, h⟩
    · exact h.elim
  · rename_i ob kvs e
    split at h
    · rename_i k ek
      exact ⟨_, .inl ⟨kvs, k, .inr ⟨ob, e⟩, keyOf_kV ek, rfl⟩, h⟩
    · exact h.elim
  · rename_i kvs e
    obtain ⟨k, b, rfl, eb, h⟩ := h
    exact ⟨_, .inr ⟨kvs, k, b, .inl e, rfl, eb, rfl⟩, h⟩
  · rename_i ob kvs e
    obtain ⟨k, b, rfl, eb, h⟩ := h
    exact ⟨_, .inr ⟨kvs, k, b, .inr ⟨ob, e⟩, rfl, eb, rfl⟩, h⟩
  · exact h.elim
def oIx (K : PySem.W.Frag) : R2 := fun x y H Q => match x with
  | .ref p => (match look K H p with
    | some (.lst xs) => (match y with
        | .int i => (match atI xs i with
            | some v => Q v H
            | none => False)
        | _ => False)
    | some (.tup xs) => (match y with
        | .int i => (match atI xs i with
            | some v => Q v H
            | none => False)
        | _ => False)
    | _ => oGet H p y fun o => match o with
        | some v => Q v H
        | none => False)
  | .str z => (match y with
    | .int i => z.length ≤ sizeLine ∧ (match atI z.cps.toList i with
        | some c => Q (.str ⟨#[c]⟩) H
        | none => False)
    | _ => False)
  | _ => False
def oIn (K : PySem.W.Frag) (neg : Bool) : R2 := fun x y H Q => match y with
  | .str z => (match x with
    | .str s => (match s.cps.toList with
        | [c] => Q (.bl (neg ^^ decide (c ∈ z.cps.toList))) H
        | _ => Q (.bl (neg ^^ !(Builtin.Str.occurrences z s 0 z.length 1).isEmpty)) H)
    | _ => False)
  | .ref p => (match look K H p with
    | some (.lst xs) => (flatV x = true ∧ xs.all flatV = true ∧ Q (.bl (neg ^^ inV x xs)) H) ∨
        ∃ d ds, Dp K H x d ∧ Dp K H y (.list ds) ∧ SeqAt.shaped d = true ∧ SeqAt.shaped (.list ds) = true ∧ Q (.bl (neg ^^ ds.any fun z => PyData.eqv z d)) H
    | some (.tup xs) => flatV x = true ∧ xs.all flatV = true ∧ Q (.bl (neg ^^ inV x xs)) H
    | _ => oGet H p x fun o => Q (.bl (neg ^^ o.isSome)) H)
  | _ => False
section
variable {X : Cx}
theorem ix_dict (hu : X.A.units + 1 < cLine) : IxR X (fun x y H Q => ∃ a v, x = .ref a ∧ DGet H a y (some v) ∧ Q v H) := by
  intro value slice pins s σ H x y v u Q I rx ry h hs
  obtain ⟨a, v', rfl, g, q⟩ := h
  cases rx
  exact tail_any (dict_typeIs I g) PySem.F.slot_dict_getitem.lookup (d_getItem hu I g ry fun w' s3 I3 rw' => ⟨v', H, I3, rw', q⟩) hs
theorem r_ix (hu : X.A.units + 1 < cLine) : IxR X (oIx X.K) := by
  intro value slice pins s σ H x y v u Q I rx ry h hs
  unfold oIx at h
  split at h
  · rename_i p
    split at h
    · rename_i xs e
      split at h
      · split at h
        · rename_i ea
          exact ix_seq value slice pins s σ H _ _ v u Q I rx ry (.inl ⟨_, _, _, _, rfl, rfl, look_lst e, ea, h⟩) hs
        · exact h.elim
      · exact h.elim
    · rename_i xs e
      split at h
      · split at h
        · rename_i ea
          exact ix_seq value slice pins s σ H _ _ v u Q I rx ry (.inr (.inl ⟨_, _, _, _, rfl, rfl, look_tup e, ea, h⟩)) hs
        · exact h.elim
      · exact h.elim
    · obtain ⟨o, g, h⟩ := oGet_dget h
      cases o with
      | none => exact h.elim
      | some w => exact ix_dict hu value slice pins s σ H _ _ v u Q I rx ry ⟨_, _, rfl, g, h⟩ hs
  · split at h
    · obtain ⟨hz, h⟩ := h
      split at h
      · rename_i ea
        exact ix_seq value slice pins s σ H _ _ v u Q I rx ry (.inr (.inr ⟨_, _, _, rfl, rfl, hz, ea, h⟩)) hs
      · exact h.elim
    · exact h.elim
  · exact h.elim
theorem xf (b : Bool) : (false ^^ b) = b := by cases b <;> rfl
theorem xt (b : Bool) : (true ^^ b) = !b := by cases b <;> rfl
theorem one_of {s : Str} {c : Nat} (h : s.cps.toList = [c]) : s = ⟨#[c]⟩ := by
  obtain ⟨cps⟩ := s
  have : cps = #[c] := by
    apply Array.ext'
    exact h
  subst this; rfl
theorem r_in (hu : X.A.units + 65 < cLine) : OpR X (compareOp .In) (oIn X.K false) := by
  intro pins s σ H x y v u Q I rx ry h
  unfold oIn at h
  split at h
  · split at h
    · split at h
      · rename_i c e
        rw [xf] at h
        rw [one_of e] at rx
        exact op_in_sign pins s σ H _ _ v u Q I rx ry ⟨_, _, rfl, rfl, h⟩
      · rw [xf] at h
        exact op_in_str pins s σ H _ _ v u Q I rx ry ⟨_, _, rfl, rfl, h⟩
    · exact h.elim
  · split at h
    · rename_i xs e
      rcases h with ⟨h1, h2, h⟩ | ⟨d, ds, h1, h2, h3, h4, h⟩
      · rw [xf] at h
        exact op_in_seq pins s σ H _ _ v u Q I rx ry ⟨_, _, rfl, .inl (look_lst e), h1, h2, h⟩
      · rw [xf] at h
        exact op_inD hu pins s σ H _ _ v u Q I rx ry ⟨d, ds, h1, h2, h3, h4, h⟩
    · rename_i xs e
      obtain ⟨h1, h2, h⟩ := h
      rw [xf] at h
      exact op_in_seq pins s σ H _ _ v u Q I rx ry ⟨_, _, rfl, .inr (look_tup e), h1, h2, h⟩
    · obtain ⟨o, g, h⟩ := oGet_dget h
      rw [xf] at h
      cases ry
      exact d_in (by omega) I g rx fun s' I' => ⟨.bl _, H, I', rfl, h⟩
  · exact h.elim
theorem r_notin (hu : X.A.units + 65 < cLine) : OpR X (compareOp .NotIn) (oIn X.K true) := by
  intro pins s σ H x y v u Q I rx ry h
  unfold oIn at h
  split at h
  · split at h
    · split at h
      · rename_i c e
        rw [xt] at h
        rw [one_of e] at rx
        exact op_notIn_sign pins s σ H _ _ v u Q I rx ry ⟨_, _, rfl, rfl, h⟩
      · rw [xt] at h
        exact op_notin_str pins s σ H _ _ v u Q I rx ry ⟨_, _, rfl, rfl, h⟩
    · exact h.elim
  · split at h
    · rename_i xs e
      rcases h with ⟨h1, h2, h⟩ | ⟨d, ds, h1, h2, h3, h4, h⟩
      · rw [xt] at h
        exact op_notIn_seq pins s σ H _ _ v u Q I rx ry ⟨_, _, rfl, .inl (look_lst e), h1, h2, h⟩
      · rw [xt] at h
        exact op_notInD hu pins s σ H _ _ v u Q I rx ry ⟨d, ds, h1, h2, h3, h4, h⟩
    · rename_i xs e
      obtain ⟨h1, h2, h⟩ := h
      rw [xt] at h
      exact op_notIn_seq pins s σ H _ _ v u Q I rx ry ⟨_, _, rfl, .inr (look_tup e), h1, h2, h⟩
    · obtain ⟨o, g, h⟩ := oGet_dget h
      rw [xt] at h
      cases ry
      exact d_notIn (by omega) I g rx fun s' I' => ⟨.bl _, H, I', rfl, h⟩
  · exact h.elim
/-- x[lo:hi] -/
def oSl (K : PySem.W.Frag) : V → Option Int → Option Int → Hp → VK → Prop := fun x lo hi H Q => match x with
  | .str z => z.length ≤ sizeLine ∧ Q (.str (cutS z lo hi)) H
  | .ref a => (match look K H a with
    | some (.lst xs) => ∀ p, H p = none → Q (.ref p) (upd H p (.lst (cutV xs lo hi)))
    | some (.tup xs) => (HT.sIx xs.length 0 lo = 0 ∧ HT.sIx xs.length xs.length hi = xs.length → Q (.ref a) H) ∧ (¬ (HT.sIx xs.length 0 lo = 0 ∧ HT.sIx xs.length xs.length hi = xs.length) → ∀ p, H p = none → Q (.ref p) (upd H p (.tup (cutV xs lo hi))))
    | _ => False)
  | _ => False
theorem r_sl : L2.SlR X (oSl X.K) := by
  intro pins s σ H x v vl vu lo hi sl Q I rx hs pl pu h
  unfold oSl at h
  split at h
  · exact sl_str pins s σ H _ v vl vu lo hi sl Q I rx hs pl pu ⟨_, rfl, h.1, h.2⟩
  · split at h
    · rename_i e
      exact sl_list pins s σ H _ v vl vu lo hi sl Q I rx hs pl pu ⟨_, _, rfl, look_lst e, h⟩
    · rename_i e
      exact sl_tupA pins s σ H _ v vl vu lo hi sl Q I rx hs pl pu ⟨_, _, rfl, look_tup e, h.1, h.2⟩
    · exact h.elim
  · exact h.elim
end

/-! ## 10. truth -/
def oTru (K : PySem.W.Frag) (x : V) (H : Hp) : Option Bool := match x with
  | .non => some false
  | .bl b => some b
  | .int i => some (i != 0)
  | .str y => if y.length ≤ sizeLine then some ((y.length : Int) != 0) else none
  | .ref p => (match look K H p with
    | some (.lst xs) => some (!xs.isEmpty)
    | some (.tup xs) => some (!xs.isEmpty)
    | _ => (match H p with
      | some (.dK kvs) => some (!kvs.isEmpty)
      | _ => none))
  | _ => none
theorem oTru_ok {K : PySem.W.Frag} {x : V} {H : Hp} {b : Bool} (h : oTru K x H = some b) : TruV K x H b := by
  unfold oTru at h
  split at h
  · cases h; exact rfl
  · cases h; exact rfl
  · cases h; exact rfl
  · split at h
    · rename_i hz; cases h; exact ⟨hz, rfl⟩
    · cases h
  · split at h
    · rename_i e; cases h; exact .inl ⟨_, look_lst e, rfl⟩
    · rename_i e; cases h; exact .inr (.inl ⟨_, look_tup e, rfl⟩)
    · split at h
      · rename_i e; cases h; exact .inr (.inr ⟨_, e, rfl⟩)
      · cases h
  · cases h
def cTru (K : PySem.W.Frag) (t : TE) : TT := fun σ H Q => t σ H fun x H1 => match oTru K x H1 with
  | some b => Q b H1
  | none => False

/-! ## 11. built-in functions -/
abbrev RC := List V → Hp → VK → Prop
def tyN (K : PySem.W.Frag) (H : Hp) (x : V) : Option String := match x with
  | .non => some "NoneType"
  | .bl _ => some "bool"
  | .int _ => some "int"
  | .str _ => some "str"
  | .ref p => (match look K H p with
    | some (.lst _) => some "list"
    | some (.tup _) => some "tuple"
    | some (.dK _) => some "dict"
    | _ => (match H p with
      | some (.dT _) => some "dict"
      | _ => none))
  | _ => none
theorem kobj_lstO {K : PySem.W.Frag} {a : Addr} {xs : List V} (h : kobj K a = some (.lst xs)) : ∃ o, K.lookup a = some o ∧ o.cls = .type "list" := by
  have z := kobj_lst (H := fun _ => none) h
  rcases z with z | ⟨o, its, n, e, c, _⟩
  · rcases z with z | ⟨_, z⟩ <;> cases z
  · exact ⟨o, e, c⟩
theorem kobj_tupO {K : PySem.W.Frag} {a : Addr} {xs : List V} (h : kobj K a = some (.tup xs)) : ∃ o, K.lookup a = some o ∧ o.cls = .type "tuple" := by
  have z := kobj_tup (H := fun _ => none) h
  rcases z with z | ⟨o, its, n, e, c, _⟩
  · rcases z with z | ⟨_, z⟩ <;> cases z
  · exact ⟨o, e, c⟩
theorem tyN_ok {K : PySem.W.Frag} {H : Hp} {x : V} {n : String} (h : tyN K H x = some n) : TyX K H x (.type n) := by
  unfold tyN at h
  split at h
  · cases h; exact .base .non
  · cases h; exact .base (.bl _)
  · cases h; exact .base (.int _)
  · cases h; exact .base (.str _)
  · split at h
    · rename_i e; cases h
      rcases look_rd e with (r | ⟨o, r⟩) | ⟨_, r⟩
      · exact .base (.lst r)
      · exact .base (.frz r)
      · obtain ⟨o, h1, h2⟩ := kobj_lstO r; exact .kList h1 h2
    · rename_i e; cases h
      rcases look_rd e with (r | ⟨o, r⟩) | ⟨_, r⟩
      · exact .base (.tup r)
      · exact .fTuple r
      · obtain ⟨o, h1, h2⟩ := kobj_tupO r; exact .kTuple h1 h2
    · rename_i e; cases h
      rcases look_dK e with r | ⟨o, r⟩
      · exact .base (.dK r)
      · exact .fDict r
    · split at h
      · rename_i e; cases h; exact .base (.dT e)
      · cases h
  · cases h
/-- isinstance(x, T), isinstance(x, (T, ..)), T built-in; of own classes by the written part -/
def allTy : List V → Option (List String)
  | [] => some []
  | .ty n :: r => (allTy r).map (n :: ·)
  | _ :: _ => none
def kitBs (n : String) : List String → Option Bool
  | [] => some false
  | T :: r => match kitB n T with
    | some true => some true
    | some false => kitBs n r
    | none => none
def bIsi (K : PySem.W.Frag) : RC := fun xs H Q => match xs with
  | [x, .ty T] => (match tyN K H x with
    | some n => (match kitB n T with
        | some b => Q (.bl b) H
        | none => False)
    | none => rIsi K xs H Q)
  | [x, .ref c] => (match H c with
    | some (.tup cs) => (match tyN K H x, allTy cs with
        | some n, some ts => (match kitBs n ts with
            | some b => Q (.bl b) H
            | none => False)
        | _, _ => rIsiT K xs H Q)
    | _ => rIsi K xs H Q)
  | _ => False
theorem allTy_cls : ∀ {cs : List V} {ts : List String}, allTy cs = some ts → Paired ClsV cs (ts.map Value.type)
  | [], ts, h => by cases h; exact .nil
  | c :: r, ts, h => by
    cases c <;> first | (simp only [allTy] at h; done) | skip
    all_goals try (cases h; done)
    rename_i n
    simp only [allTy] at h
    cases e : allTy r with
    | none => rw [e] at h; cases h
    | some l => rw [e] at h; cases h; exact .cons (.ty _) (allTy_cls e)
theorem kitBs_ok {K : PySem.W.Frag} {n : String} : ∀ {ts : List String} {b : Bool}, kitBs n ts = some b → PySem.W.kitAny K (.type n) (ts.map Value.type) = some b
  | [], b, h => by cases h; exact kitAny_nil
  | T :: r, b, h => by
    unfold kitBs at h
    split at h
    · rename_i e; cases h; exact kitAny_cons (kit_ty e) (fun z => nomatch z) fun _ => rfl
    · rename_i e; exact kitAny_cons (kit_ty e) (fun _ => kitBs_ok h) (fun z => nomatch z)
    · cases h
def bLen (K : PySem.W.Frag) : RC := fun xs H Q => match xs with
  | [.str y] => y.length ≤ sizeLine ∧ Q (.int y.length) H
  | [.ref p] => (match look K H p with
    | some (.lst ys) => Q (.int ys.length) H
    | some (.tup ys) => Q (.int ys.length) H
    | _ => (match H p with
      | some (.dK kvs) => Q (.int kvs.length) H
      | _ => False))
  | _ => False
def bAbs : RC := fun xs H Q => match xs with
  | [.int i] => Q (.int (if i < 0 then -i else i)) H
  | _ => False
def bMax : RC := fun xs H Q => match xs with
  | [.int i, .int j] => Q (.int (if j > i then j else i)) H
  | _ => False
def bMin : RC := fun xs H Q => match xs with
  | [.int i, .int j] => Q (.int (if j < i then j else i)) H
  | _ => False
def bOrd : RC := fun xs H Q => match xs with
  | [.str x] => x.length = 1 ∧ Q (.int (x.cps.getD 0 0 : Nat)) H
  | _ => False
def bInt : RC := fun xs H Q => match xs with
  | [.int i] => Q (.int i) H
  | [.bl k] => Q (.int (if k then 1 else 0)) H
  | [.str a] => a.length ≤ 640 ∧ (match PySem.intText? a with
    | some n => Q (.int n) H
    | none => False)
  | _ => False
def bStrOf : RC := fun xs H Q => match xs with
  | [.int i] => i.natAbs.log2 < 1920 ∧ Q (.str (toString i)) H
  | _ => False
def bAll (K : PySem.W.Frag) : RC := fun xs H Q => ∃ (a : Addr) (bs : List Bool), xs = [V.ref a] ∧ look K H a = some (.lst (bs.map V.bl)) ∧ Q (.bl (bs.all id)) H
def bAny (K : PySem.W.Frag) : RC := fun xs H Q => ∃ (a : Addr) (bs : List Bool), xs = [V.ref a] ∧ look K H a = some (.lst (bs.map V.bl)) ∧ Q (.bl (bs.any id)) H
def bSum (K : PySem.W.Frag) : RC := fun xs H Q => ∃ (a : Addr) (ns : List Int), xs = [V.ref a] ∧ look K H a = some (.lst (ns.map V.int)) ∧ Q (.int ns.sum) H
def bList (K : PySem.W.Frag) : RC := fun xs H Q => match xs with
  | [.ref p] => (match look K H p with
    | some (.lst ys) => ∀ l, H l = none → Q (.ref l) (upd H l (.lst ys))
    | some (.tup ys) => ∀ l, H l = none → Q (.ref l) (upd H l (.lst ys))
    | some (.dK kvs) => ∀ l, H l = none → Q (.ref l) (upd H l (.lst (kvs.map fun kv => kV kv.1)))
    | _ => False)
  | _ => False
def bTuple (K : PySem.W.Frag) : RC := fun xs H Q => match xs with
  | [.ref p] => (match look K H p with
    | some (.lst ys) => ∀ l, H l = none → Q (.ref l) (upd H l (.tup ys))
    | some (.tup ys) => Q (.ref p) H
    | _ => False)
  | _ => False
def bDict (K : PySem.W.Frag) : RC := fun xs H Q => match xs with
  | [.ref p] => (match look K H p with
    | some (.dK kvs) => ∀ l, H l = none → Q (.ref l) (upd H l (.dK kvs))
    | some (.lst ys) => ∃ (ps : List Addr) (kvs : List (Key × V)), ys = ps.map V.ref ∧ Paired (fun p kv => SqT K H p [kV kv.1, kv.2]) ps kvs ∧ ∀ l, H l = none → Q (.ref l) (upd H l (.dK (mergeK [] kvs)))
    | _ => False)
  | _ => False
section
variable {X : Cx}
theorem b_isi : CallR X (.builtin "isinstance") (bIsi X.K) := by
  refine CallR_imp (call_isi.or call_isiT) fun xs H Q h => ?_
  unfold bIsi at h
  split at h
  · split at h
    · rename_i n e
      split at h
      · rename_i b eb
        exact .inl ⟨_, _, _, _, b, rfl, .ty _, tyN_ok e, kit_ty eb, h⟩
      · exact h.elim
    · exact .inl h
  · split at h
    · rename_i cs ec
      split at h
      · rename_i n ts e1 e2
        split at h
        · rename_i b eb
          exact .inr ⟨_, _, _, _, _, b, rfl, ec, allTy_cls e2, tyN_ok e1, kitBs_ok eb, h⟩
        · exact h.elim
      · exact .inr h
    · exact .inl h
  · exact h.elim
theorem b_len : CallR X (.builtin "len") (bLen X.K) := by
  refine CallR_imp (call_len.or call_lenD) fun xs H Q h => ?_
  unfold bLen at h
  split at h
  · exact .inl ⟨_, _, rfl, ⟨h.1, rfl⟩, h.2⟩
  · split at h
    · rename_i e; exact .inl ⟨_, _, rfl, .inl ⟨_, look_lst e, rfl⟩, h⟩
    · rename_i e; exact .inl ⟨_, _, rfl, .inr ⟨_, look_tup e, rfl⟩, h⟩
    · split at h
      · rename_i e; exact .inr ⟨_, _, rfl, e, h⟩
      · exact h.elim
  · exact h.elim
theorem b_abs : CallR X (.builtin "abs") bAbs := CallR_imp call_abs fun xs H Q h => by
  unfold bAbs at h; split at h
  · exact ⟨_, rfl, h⟩
  · exact h.elim
theorem b_max (hc : X.calm = true) : CallR X (.builtin "max") bMax := CallR_imp (call_max2 hc) fun xs H Q h => by
  unfold bMax at h; split at h
  · exact ⟨_, _, rfl, h⟩
  · exact h.elim
theorem b_min (hc : X.calm = true) : CallR X (.builtin "min") bMin := CallR_imp (call_min2 hc) fun xs H Q h => by
  unfold bMin at h; split at h
  · exact ⟨_, _, rfl, h⟩
  · exact h.elim
theorem b_ord : CallR X (.builtin "ord") bOrd := CallR_imp call_ord fun xs H Q h => by
  unfold bOrd at h; split at h
  · exact ⟨_, rfl, h.1, h.2⟩
  · exact h.elim
theorem b_int : CallR X (.type "int") bInt := CallR_imp (call_int1.or call_int_str) fun xs H Q h => by
  unfold bInt at h; split at h
  · exact .inl (.inl ⟨_, rfl, h⟩)
  · exact .inl (.inr ⟨_, rfl, h⟩)
  · obtain ⟨hz, h⟩ := h
    split at h
    · rename_i e; exact .inr ⟨_, _, rfl, e, hz, h⟩
    · exact h.elim
  · exact h.elim
theorem b_str : CallR X (.type "str") bStrOf := CallR_imp call_str_int fun xs H Q h => by
  unfold bStrOf at h; split at h
  · exact ⟨_, rfl, h.1, h.2⟩
  · exact h.elim
theorem b_all (hc : X.calm = true) : CallR X (.builtin "all") (bAll X.K) := CallR_imp (cr_all hc) fun xs H Q ⟨a, bs, e, l, q⟩ => ⟨a, bs, e, look_lst l, q⟩
theorem b_any (hc : X.calm = true) : CallR X (.builtin "any") (bAny X.K) := CallR_imp (cr_any hc) fun xs H Q ⟨a, bs, e, l, q⟩ => ⟨a, bs, e, look_lst l, q⟩
theorem b_sum (hc : X.calm = true) : CallR X (.builtin "sum") (bSum X.K) := CallR_imp (cr_sum hc) fun xs H Q ⟨a, bs, e, l, q⟩ => ⟨a, bs, e, look_lst l, q⟩
theorem b_list (hc : X.calm = true) : CallR X (.type "list") (bList X.K) := CallR_imp (call_list_of.or (call_listD hc)) fun xs H Q h => by
  unfold bList at h
  split at h
  · split at h
    · rename_i e; exact .inl ⟨_, _, rfl, .inl (look_lst e), h⟩
    · rename_i e; exact .inl ⟨_, _, rfl, .inr (look_tup e), h⟩
    · rename_i e; exact .inr ⟨_, _, rfl, look_dK e, h⟩
    · exact h.elim
  · exact h.elim
theorem b_tuple : CallR X (.type "tuple") (bTuple X.K) := CallR_imp call_tuple_of fun xs H Q h => by
  unfold bTuple at h
  split at h
  · split at h
    · rename_i e; exact ⟨_, _, rfl, .inl ⟨look_lst e, h⟩⟩
    · rename_i e; exact ⟨_, _, rfl, .inr ⟨look_tup e, h⟩⟩
    · exact h.elim
  · exact h.elim
theorem b_dict (hc : X.calm = true) : CallR X (.type "dict") (bDict X.K) := CallR_imp (call_dictD.or (call_dictP hc)) fun xs H Q h => by
  unfold bDict at h
  split at h
  · split at h
    · rename_i e; exact .inl ⟨_, _, rfl, look_dK e, h⟩
    · rename_i e
      obtain ⟨ps, kvs, rfl, hp, q⟩ := h
      exact .inr ⟨_, ps, kvs, rfl, look_lst e, hp, q⟩
    · exact h.elim
  · exact h.elim
end
end WR

set_option Elab.async false
set_option linter.all false
set_option maxRecDepth 100000
set_option maxHeartbeats 4000000
namespace WR
open PySem PySem.Spec PyProof.Rows L2

/-! ## 12. methods of built-in types -/
abbrev RM := V → List V → Hp → VK → Prop
def mAppend : RM := fun x vs H Q => match x, vs with
  | .ref l, [y] => (match H l with
    | some (.lst xs) => xs.length < sizeLine ∧ Q .non (upd H l (.lst (xs ++ [y])))
    | _ => False)
  | _, _ => False
def mExtend : RM := fun x vs H Q => match x, vs with
  | .ref l, [.ref b] => (match H l, H b with
    | some (.lst xs), some (.lst zs) => xs.length + zs.length ≤ sizeLine ∧ Q .non (upd H l (.lst (xs ++ zs)))
    | _, _ => False)
  | _, _ => False
def mPopL : RM := fun x vs H Q => match x, vs with
  | .ref l, [] => (match H l with
    | some (.lst xs) => (match xs[xs.length - 1]? with
        | some y => Q y (upd H l (.lst xs.dropLast))
        | none => False)
    | _ => False)
  | .ref l, [.int i] => (match H l with
    | some (.lst xs) => -(2 ^ 63) ≤ i ∧ i < 2 ^ 63 ∧ (match seqIndex? i xs.length with
        | some k => (match xs[k]? with
          | some y => Q y (upd H l (.lst (xs.eraseIdx k)))
          | none => False)
        | none => False)
    | _ => False)
  | _, _ => False
def mReverse : RM := fun x vs H Q => match x, vs with
  | .ref l, [] => (match H l with
    | some (.lst xs) => Q .non (upd H l (.lst xs.reverse))
    | _ => False)
  | _, _ => False
def mClearL : RM := fun x vs H Q => match x, vs with
  | .ref l, [] => (match H l with
    | some (.lst xs) => Q .non (upd H l (.lst []))
    | _ => False)
  | _, _ => False
def mInsert : RM := fun x vs H Q => match x, vs with
  | .ref l, [.int i, y] => (match H l with
    | some (.lst xs) => xs.length < sizeLine ∧ 0 ≤ i ∧ i < 2 ^ 63 ∧ Q .non (upd H l (.lst (xs.take i.toNat ++ [y] ++ xs.drop i.toNat)))
    | _ => False)
  | _, _ => False
def mIndexL (K : PySem.W.Frag) : RM := fun x vs H Q => match x, vs with
  | .ref l, [y] => (match look K H l with
    | some (.lst ys) => flatV y = true ∧ ys.all flatV = true ∧ ∃ (j : Nat) (z : V), ys[j]? = some z ∧ eqV z y = true ∧ (∀ (m : Nat) (z' : V), m < j → ys[m]? = some z' → eqV z' y = false) ∧ Q (.int (j : Nat)) H
    | _ => False)
  | _, _ => False
def mGetD : RM := fun x vs H Q => match x, vs with
  | .ref a, [y] => oGet H a y fun o => Q (o.getD .non) H
  | .ref a, [y, d] => oGet H a y fun o => Q (o.getD d) H
  | _, _ => False
def mPopD : RM := fun x vs H Q => match x, vs with
  | .ref a, [y] => (match H a, keyOf y with
    | some (.dK kvs), some k => (match valV kvs k with
        | some v => Q v (upd H a (.dK (dropK kvs k)))
        | none => False)
    | _, _ => False)
  | .ref a, [y, d] => (match H a, keyOf y with
    | some (.dK kvs), some k => (match valV kvs k with
        | some v => Q v (upd H a (.dK (dropK kvs k)))
        | none => Q d H)
    | _, _ => False)
  | _, _ => False
def mClearD : RM := fun x vs H Q => match x, vs with
  | .ref a, [] => (match H a with
    | some (.dK kvs) => Q .non (upd H a (.dK []))
    | _ => False)
  | _, _ => False
def mJoin (K : PySem.W.Frag) : RM := fun x vs H Q => match x, vs with
  | .str a, [.ref p] => ∃ ys : List Str, (look K H p = some (.lst (ys.map V.str)) ∨ look K H p = some (.tup (ys.map V.str))) ∧ (ys.map (·.length)).sum + ys.length * a.length ≤ 16777216 ∧ Q (.str (Txt.join a ys)) H
  | _, _ => False
def mSplit : RM := fun x vs H Q => match x, vs with
  | .str a, [.str b] => (b.length == 0) = false ∧ a.length + 2 ≤ sizeLine ∧ ∀ p, H p = none → Q (.ref p) (upd H p (.lst ((Txt.split a b).map V.str)))
  | _, _ => False
def mPartition : RM := fun x vs H Q => match x, vs with
  | .str a, [.str b] => (b.length == 0) = false ∧ a.length ≤ sizeLine ∧ ∀ p, H p = none → Q (.ref p) (upd H p (.tup [.str (Txt.partition a b).1, .str (Txt.partition a b).2.1, .str (Txt.partition a b).2.2]))
  | _, _ => False
def mIndexS : RM := fun x vs H Q => match x, vs with
  | .str a, [.str b] => (match Builtin.Str.occurrences a b 0 a.length 1 with
    | i :: _ => Q (.int (i : Nat)) H
    | [] => False)
  | _, _ => False
def mEnds : RM := fun x vs H Q => match x, vs with
  | .str a, [.str b] => Q (.bl (Txt.endswith a b)) H
  | _, _ => False
def mCountS : RM := fun x vs H Q => match x, vs with
  | .str a, [.str b] => Q (.int (Txt.count a b)) H
  | _, _ => False
def mUpper : RM := fun x vs H Q => match x, vs with
  | .str a, [] => a.length ≤ 5592405 ∧ Q (.str (Txt.upper a)) H
  | _, _ => False
section
variable {X : Cx}
theorem m_append : MtR X "list.append" mAppend := MtR_imp mt_append fun x vs H Q h => by
  unfold mAppend at h; split at h
  · split at h
    · rename_i e; exact ⟨_, _, _, rfl, rfl, e, h.1, h.2⟩
    · exact h.elim
  · exact h.elim
theorem m_extend : MtR X "list.extend" mExtend := MtR_imp mt_extend fun x vs H Q h => by
  unfold mExtend at h; split at h
  · split at h
    · rename_i e f; exact ⟨_, _, _, _, rfl, rfl, e, f, h.1, h.2⟩
    · exact h.elim
  · exact h.elim
theorem m_popL : MtR X "list.pop" mPopL := MtR_imp (MtR.or mt_pop mt_popAt) fun x vs H Q h => by
  unfold mPopL at h; split at h
  · split at h
    · rename_i e
      split at h
      · rename_i f; exact .inl ⟨_, _, _, rfl, rfl, e, f, h⟩
      · exact h.elim
    · exact h.elim
  · split at h
    · rename_i e
      obtain ⟨h1, h2, h⟩ := h
      split at h
      · rename_i f
        split at h
        · rename_i g; exact .inr ⟨_, _, _, _, _, rfl, rfl, e, h1, h2, f, g, h⟩
        · exact h.elim
      · exact h.elim
    · exact h.elim
  · exact h.elim
theorem m_reverse : MtR X "list.reverse" mReverse := MtR_imp mt_reverse fun x vs H Q h => by
  unfold mReverse at h; split at h
  · split at h
    · rename_i e; exact ⟨_, _, rfl, rfl, e, h⟩
    · exact h.elim
  · exact h.elim
theorem m_clearL : MtR X "list.clear" mClearL := MtR_imp mt_clear fun x vs H Q h => by
  unfold mClearL at h; split at h
  · split at h
    · rename_i e; exact ⟨_, _, rfl, rfl, e, h⟩
    · exact h.elim
  · exact h.elim
theorem m_insert : MtR X "list.insert" mInsert := MtR_imp mt_insert fun x vs H Q h => by
  unfold mInsert at h; split at h
  · split at h
    · rename_i e; exact ⟨_, _, _, _, rfl, rfl, e, h.1, h.2.1, h.2.2.1, h.2.2.2⟩
    · exact h.elim
  · exact h.elim
theorem m_indexL : MtR X "list.index" (mIndexL X.K) := MtR_imp mt_index fun x vs H Q h => by
  unfold mIndexL at h; split at h
  · split at h
    · rename_i e
      obtain ⟨h1, h2, j, z, h3, h4, h5, q⟩ := h
      exact ⟨_, _, _, j, z, rfl, rfl, look_lst e, h1, h2, h3, h4, h5, q⟩
    · exact h.elim
  · exact h.elim
theorem m_getD (hu : X.A.units + 1 < cLine) : MtR X "dict.get" mGetD := by
  intro pins s σ H x vs v us Q I rx rs h
  unfold mGetD at h
  split at h
  · obtain ⟨o, g, q⟩ := oGet_dget h
    cases rx
    obtain ⟨u, rfl, ru⟩ := vals1 rs
    exact d_get1 hu I g ru fun w' s' I' r' => ⟨_, H, I', r', q⟩
  · obtain ⟨o, g, q⟩ := oGet_dget h
    cases rx
    obtain ⟨u, u2, rfl, ru, ru2⟩ := vals2 rs
    exact d_get2 hu I g ru ru2 fun w' s' I' r' => ⟨_, H, I', r', q⟩
  · exact h.elim
theorem m_popD : MtR X "dict.pop" mPopD := by
  intro pins s σ H x vs v us Q I rx rs h
  unfold mPopD at h
  split at h
  · split at h
    · rename_i k e ek
      split at h
      · rename_i el
        cases rx
        obtain ⟨u, rfl, ru⟩ := vals1 rs
        rw [keyOf_kV ek] at ru
        exact d_pop (more := []) I e ru el (.inl rfl) fun w' s' I' r' => ⟨_, _, I', r', h⟩
      · exact h.elim
    · exact h.elim
  · split at h
    · rename_i k e ek
      cases rx
      obtain ⟨u, u2, rfl, ru, ru2⟩ := vals2 rs
      rw [keyOf_kV ek] at ru
      split at h
      · rename_i el
        exact d_pop I e ru el (.inr ⟨_, rfl⟩) fun w' s' I' r' => ⟨_, _, I', r', h⟩
      · rename_i el
        exact d_popD I e ru el fun s' I' => ⟨_, _, I', ru2, h⟩
    · exact h.elim
  · exact h.elim
theorem m_clearD : MtR X "dict.clear" mClearD := MtR_imp mtd_clear fun x vs H Q h => by
  unfold mClearD at h; split at h
  · split at h
    · rename_i e; exact ⟨_, _, rfl, rfl, e, h⟩
    · exact h.elim
  · exact h.elim
theorem m_join : MtR X "str.join" (mJoin X.K) := MtR_imp mt_join fun x vs H Q h => by
  unfold mJoin at h; split at h
  · obtain ⟨ys, e, hz, q⟩ := h
    exact ⟨_, _, ys, rfl, rfl, e.elim (fun e => .inl (look_lst e)) (fun e => .inr (look_tup e)), hz, q⟩
  · exact h.elim
theorem m_split : MtR X "str.split" mSplit := MtR_imp mt_split fun x vs H Q h => by
  unfold mSplit at h; split at h
  · exact ⟨_, _, rfl, rfl, h.1, h.2.1, h.2.2⟩
  · exact h.elim
theorem m_partition : MtR X "str.partition" mPartition := MtR_imp mt_partition fun x vs H Q h => by
  unfold mPartition at h; split at h
  · exact ⟨_, _, rfl, rfl, h.1, h.2.1, h.2.2⟩
  · exact h.elim
theorem m_indexS : MtR X "str.index" mIndexS := MtR_imp mt_sindex fun x vs H Q h => by
  unfold mIndexS at h; split at h
  · split at h
    · rename_i e; exact ⟨_, _, _, _, rfl, rfl, e, h⟩
    · exact h.elim
  · exact h.elim
theorem m_ends : MtR X "str.endswith" mEnds := MtR_imp mt_endswith fun x vs H Q h => by
  unfold mEnds at h; split at h
  · exact ⟨_, _, rfl, rfl, h⟩
  · exact h.elim
theorem m_countS : MtR X "str.count" mCountS := MtR_imp mt_count fun x vs H Q h => by
  unfold mCountS at h; split at h
  · exact ⟨_, _, rfl, rfl, h⟩
  · exact h.elim
theorem m_upper : MtR X "str.upper" mUpper := MtR_imp mt_upper fun x vs H Q h => by
  unfold mUpper at h; split at h
  · exact ⟨_, rfl, rfl, h.1, h.2⟩
  · exact h.elim
end
/-- the table -/
def bms (K : PySem.W.Frag) : List BM := [
  ⟨"list", "append", "list.append", mAppend⟩, ⟨"list", "extend", "list.extend", mExtend⟩, ⟨"list", "pop", "list.pop", mPopL⟩, ⟨"list", "reverse", "list.reverse", mReverse⟩, ⟨"list", "clear", "list.clear", mClearL⟩,
  ⟨"list", "insert", "list.insert", mInsert⟩, ⟨"list", "index", "list.index", mIndexL K⟩,
  ⟨"dict", "get", "dict.get", mGetD⟩, ⟨"dict", "pop", "dict.pop", mPopD⟩, ⟨"dict", "clear", "dict.clear", mClearD⟩,
  ⟨"str", "join", "str.join", mJoin K⟩, ⟨"str", "split", "str.split", mSplit⟩, ⟨"str", "partition", "str.partition", mPartition⟩, ⟨"str", "index", "str.index", mIndexS⟩, ⟨"str", "endswith", "str.endswith", mEnds⟩,
  ⟨"str", "count", "str.count", mCountS⟩, ⟨"str", "upper", "str.upper", mUpper⟩]
theorem bms_ok {X : Cx} (hu : X.A.units + 1 < cLine) : ∀ b ∈ bms X.K, BMOk X b := by
  intro b hb
  simp only [bms, List.mem_cons, List.not_mem_nil, or_false] at hb
  rcases hb with rfl | rfl | rfl | rfl | rfl | rfl | rfl | rfl | rfl | rfl | rfl | rfl | rfl | rfl | rfl | rfl | rfl
  · exact ⟨PySem.F.plainAttrs_list, PySem.F.slot_list_append, PySem.F.type_list_append, m_append⟩
  · exact ⟨PySem.F.plainAttrs_list, PySem.F.slot_list_extend, PySem.F.type_list_extend, m_extend⟩
  · exact ⟨PySem.F.plainAttrs_list, PySem.F.slot_list_pop, PySem.F.type_list_pop, m_popL⟩
  · exact ⟨PySem.F.plainAttrs_list, PySem.F.slot_list_reverse, PySem.F.type_list_reverse, m_reverse⟩
  · exact ⟨PySem.F.plainAttrs_list, PySem.F.slot_list_clear, PySem.F.type_list_clear, m_clearL⟩
  · exact ⟨PySem.F.plainAttrs_list, PySem.F.slot_list_insert, PySem.F.type_list_insert, m_insert⟩
  · exact ⟨PySem.F.plainAttrs_list, PySem.F.slot_list_index, PySem.F.type_list_index, m_indexL⟩
  · exact ⟨PySem.F.plainAttrs_dict, PySem.F.slot_dict_get, PySem.F.type_dict_get, m_getD hu⟩
  · exact ⟨PySem.F.plainAttrs_dict, PySem.F.slot_dict_pop, PySem.F.type_dict_pop, m_popD⟩
  · exact ⟨PySem.F.plainAttrs_dict, PySem.F.slot_dict_clear, PySem.F.type_dict_clear, m_clearD⟩
  · exact ⟨PySem.F.plainAttrs_str, PySem.F.slot_str_join, PySem.F.type_str_join, m_join⟩
  · exact ⟨PySem.F.plainAttrs_str, PySem.F.slot_str_split, PySem.F.type_str_split, m_split⟩
  · exact ⟨PySem.F.plainAttrs_str, PySem.F.slot_str_partition, PySem.F.type_str_partition, m_partition⟩
  · exact ⟨PySem.F.plainAttrs_str, PySem.F.slot_str_index, PySem.F.type_str_index, m_indexS⟩
  · exact ⟨PySem.F.plainAttrs_str, PySem.F.slot_str_endswith, PySem.F.type_str_endswith, m_ends⟩
  · exact ⟨PySem.F.plainAttrs_str, PySem.F.slot_str_count, PySem.F.type_str_count, m_countS⟩
  · exact ⟨PySem.F.plainAttrs_str, PySem.F.slot_str_upper, PySem.F.type_str_upper, m_upper⟩

/-! ## 13. a method's call, by what the receiver is -/
def tyB (K : PySem.W.Frag) (H : Hp) (x : V) : Option String := match x with
  | .str _ => some "str"
  | .ref p => (match look K H p with
    | some (.lst _) => some "list"
    | _ => (match H p with
      | some (.dK _) => some "dict"
      | some (.dT _) => some "dict"
      | some (.set _ _) => some "set"
      | _ => none))
  | _ => none
theorem tyB_ok {K : PySem.W.Frag} {H : Hp} {x : V} {T : String} (h : tyB K H x = some T) : tyV K T x H := by
  unfold tyB at h
  split at h
  · cases h; exact rfl
  · split at h
    · rename_i e; cases h; exact .inl ⟨rfl, _, look_lst e⟩
    · split at h
      · rename_i e; cases h; exact .inr (.inr (.inl ⟨rfl, .inl ⟨_, e⟩⟩))
      · rename_i e; cases h; exact .inr (.inr (.inl ⟨rfl, .inr ⟨_, e⟩⟩))
      · rename_i e; cases h; exact .inr (.inr (.inr ⟨rfl, _, _, e⟩))
      · cases h
  · cases h
def insOf (H : Hp) (x : V) : Option (Addr × Addr × List (Str × V)) := match x with
  | .ref a => (match H a with
    | some (.ins C dx fs) => some (a, C, fs)
    | _ => none)
  | _ => none
theorem insOf_ok {H : Hp} {x : V} {a C : Addr} {fs : List (Str × V)} (h : insOf H x = some (a, C, fs)) : ∃ dx, x = .ref a ∧ H a = some (.ins C dx fs) := by
  unfold insOf at h
  split at h
  · split at h
    · rename_i e; cases h; exact ⟨_, rfl, e⟩
    · cases h
  · cases h
def cMeth (K : PySem.W.Frag) (m : Str) (n nk : Nat) (cands : List MtI) (bs : List BM) (ta : TE) (t tk : TA) (W : WX) : TE := fun σ H Q => ta σ H fun x H1 =>
  match insOf H1 x with
  | some (_, C, fs) => fs.lookup m = none ∧ ∃ c ∈ cands, c.cls = C ∧ t σ H1 fun vs H2 => tk σ H2 fun zs H3 => vs.length = n ∧ zs.length = nk ∧ c.sp (x :: c.arr vs zs) H3 Q (fun cls d H' => W cls d σ H')
  | none => (match tyB K H1 x with
    | some T => (match bs.find? (fun b => b.T == T) with
      | some b => nk = 0 ∧ t σ H1 fun vs H2 => b.r x vs H2 Q
      | none => False)
    | none => False)
section
variable {g : G} {lev : Nat} {X : Cx} {N : List Str} {sc : Scope} {W : WX}
theorem pe_methG {o : Expr} {m : Str} {apos pos : Pos} {es : List Expr} {kws : List Keyword} {ks : List Str} {ta : TE} {t tk : TA} {cands : List MtI} {bs : List BM} (c : COk g lev X N sc W) (hb : baseOk o = true) (hstar : es.all notStar = true) (hkw : kwNames kws = some ks)
    (hfew : es.length + kws.length < 29) (hline : (apos.endLine == pos.line) = true) (hc : ∀ i ∈ cands, i ∈ g.mts ∧ i.name = m ∧ i.n = es.length ∧ i.ks = ks) (hbs : ∀ b ∈ bs, BMOk X b ∧ b.name = m)
    (hnil : es = [] → t = tNil) (hknil : kws = [] → tk = tNil) (ho : PE X o ta) (ha : PA X es t) (hw : PK X kws tk) : PE X (.Call (.Attribute o m apos) es kws pos) (cMeth g.K m es.length ks.length cands bs ta t tk W) := by
  refine ⟨fun pins s σ H Q I h => ?_⟩
  refine meth_gen hb hstar hkw hfew hline (thn (ho.run pins s σ H _ I h) fun ov s1 ⟨x, H1, I1, rx, q1⟩ pl => ?_)
  dsimp only at q1
  split at q1
  · rename_i a C fs e
    obtain ⟨l, i, hi, hC, q1⟩ := q1
    obtain ⟨dx, rfl, ea⟩ := insOf_ok e
    obtain ⟨hm, hn, hnn, hks⟩ := hc i hi
    obtain ⟨fa, fd, ps, gf, cl, me, F, kb⟩ := c.gok.mts i hm
    rw [hC] at cl me
    rw [hn] at me
    rw [hnn, hks] at kb
    rw [← c.hK] at cl me F kb
    cases rx
    refine getmeth_ok I1 ea cl me l ?_
    refine args_of (first := [.ref a]) (R := fun vs zs H2 => vs.length = es.length ∧ zs.length = ks.length ∧ i.sp (.ref a :: i.arr vs zs) H2 Q (fun cls d H' => W cls d σ H')) (keeps_ref me.kp) hnil hstar hkw ha hw I1 q1 fun vs zs us ws s2 H2 I2 r rz q => ?_
    exact run_own (vs := .ref a :: vs) (us := .ref a :: us) F c.room0 kb c.tk I2 (.cons rfl r) rz (by rw [List.length_cons, q.1]) q.2.1 q.2.2
  · split at q1
    · rename_i T eT
      split at q1
      · rename_i b eb
        obtain ⟨hz, q1⟩ := q1
        have hbm : b ∈ bs := List.mem_of_find?_eq_some eb
        have hT : b.T = T := by have := List.find?_some eb; exact beq_iff_eq.mp this
        obtain ⟨ok, hn⟩ := hbs b hbm
        obtain ⟨h1, h2⟩ := tyV_is I1 rx (by rw [c.hK]; exact tyB_ok eT)
        have hkz : ks = [] := List.length_eq_zero_iff.mp hz
        subst hkz
        have hkws : kws = [] := by
          have := (kw_all (env := X.env) (pos := pos) hkw).2.2.2
          exact List.length_eq_zero_iff.mp this.symm
        subst hkws
        rw [hknil rfl] at hw
        refine getMethod_builtin (T := T) (id := b.id) h1 (hT ▸ ok.pa) (hn ▸ hT ▸ ok.slot) ok.ty h2 ?_
        refine args_of (tk := tNil) (ks := []) (first := [ov]) (R := fun vs zs H2 => zs = [] ∧ b.r x vs H2 Q) keeps_blt hnil hstar hkw ha hw I1 (?_ : t σ H1 fun vs H2 => tNil σ H2 fun zs H3 => zs = [] ∧ b.r x vs H3 Q) fun vs zs us ws s2 H2 I2 r rz q => ?_
        · have e : (fun (vs : List V) (H2 : Hp) => tNil σ H2 fun zs H3 => zs = [] ∧ b.r x vs H3 Q) = fun vs H2 => b.r x vs H2 Q := by
            funext vs H2
            exact propext ⟨fun z => z.2, fun z => ⟨rfl, z⟩⟩
          rw [e]
          exact q1
        · obtain ⟨rfl, q⟩ := q
          exact ok.run pins s2 σ H2 x vs ov us Q I2 rx r q
      · exact q1.elim
    · exact q1.elim
end
end WR

set_option Elab.async false
set_option linter.all false
set_option maxRecDepth 100000
set_option maxHeartbeats 4000000
namespace WR
open PySem PySem.Spec PyProof.Rows L2

theorem ownB_ok {K : PySem.W.Frag} {C : Addr} (h : ownB K C = true) : PySem.W.findIn K (.ref C) "__ne__" = some (some (.builtin "object.__ne__")) ∧ PySem.W.findIn K (.ref C) "__class__" = some (some (.builtin "object.__class__")) ∧
    PySem.W.specialIn K (.builtin "object.__class__") "__get__" = some (some (.builtin "getset_descriptor.__get__")) ∧ PySem.W.takesIn K (.builtin "object.__class__") = some true ∧ PySem.W.mroIn K C (.type "object") = some true ∧
    PySem.W.kitOne K (.ref C) (.ref C) = some true ∧ ∀ n ∈ basics, PySem.W.kitOne K (.type n) (.ref C) = some false := by
  unfold ownB at h
  simp only [Bool.and_eq_true, decide_eq_true_eq, List.all_eq_true] at h
  obtain ⟨h1, h2, h3, h4, h5, h6, h7⟩ := h
  exact ⟨h1, h2, h3, h4, h5, h6, h7⟩
/-! ## the text's own specials: len, ==, !=, str, bool of an own class's instances -/
/-! ## dicts compared deeply -/
inductive DpKv (K : PySem.W.Frag) (H : Hp) : List (Key × V) → List (Key × PyData) → Prop
  | nil : DpKv K H [] []
  | cons {k : Key} {v : V} {d : PyData} {kvs : List (Key × V)} {ds : List (Key × PyData)} (h : Dp K H v d) (s : SeqAt.shaped d = true) (r : DpKv K H kvs ds) : DpKv K H ((k, v) :: kvs) ((k, d) :: ds)
def dat (es : List (Key × PyData)) (k : Key) : Option PyData := (es.find? fun p => decide (p.1 = k)).map (·.2)
def eqKv (ds es : List (Key × PyData)) : Bool := ds.all fun p => match dat es p.1 with | some e => PyData.eqv p.2 e | none => false
theorem DpKv.len {K : PySem.W.Frag} {H : Hp} {ks : List (Key × V)} {ds : List (Key × PyData)} (h : DpKv K H ks ds) : ks.length = ds.length := by
  induction h with
  | nil => rfl
  | cons _ _ _ ih => simp [ih]
theorem DpKv.get {K : PySem.W.Frag} {H : Hp} {k : Key} {ks : List (Key × V)} {ds : List (Key × PyData)} (h : DpKv K H ks ds) : (valV ks k = none ∧ dat ds k = none) ∨ ∃ v d, valV ks k = some v ∧ dat ds k = some d ∧ Dp K H v d ∧ SeqAt.shaped d = true := by
  induction h with
  | nil => exact .inl ⟨rfl, rfl⟩
  | @cons k' v d kvs ds h s r ih =>
    by_cases e : k' = k
    · exact .inr ⟨v, d, valV_pos e, by simp [dat, e], h, s⟩
    · rw [valV_neg e]
      have : dat ((k', d) :: ds) k = dat ds k := by simp [dat, List.find?_cons, e]
      rw [this]; exact ih
theorem hits_deep {X : Cx} {pins : List (Addr × Obj)} {σ : St} {H : Hp} {s : Shared} {A : Around} {ls : List (Key × V)} {vb : List (Key × Value)} {es : List (Key × PyData)} (I : Inv X pins σ H s) (hu : A.in1.units + 64 < cLine) (rb : KV ls vb) (he : DpKv X.K H ls es) :
    ∀ {ks : List (Key × V)} {va : List (Key × Value)} {ds : List (Key × PyData)}, KV ks va → DpKv X.K H ks ds → PySem.W.KeqHits A.in1 s vb va (eqKv ds es) := by
  intro ks va ds ra hd
  induction hd generalizing va with
  | nil => cases ra; exact .nil
  | @cons k v d kvs ds h sh r ih =>
    cases ra with
    | @cons _ q _ vr h1 t =>
      obtain ⟨k', u⟩ := q
      obtain ⟨rfl, ru⟩ := h1
      have rl := rb.val k
      rcases he.get (k := k) with ⟨a, b⟩ | ⟨y, e, a, b, hy, se⟩
      · rw [a] at rl
        have hn : valueAt vb k = none := by
          cases q : valueAt vb k with
          | none => rfl
          | some w => rw [q] at rl; exact rl.elim
        have e : eqKv ((k, d) :: ds) es = false := by simp [eqKv, b]
        rw [e]
        exact .miss hn
      · rw [a] at rl
        obtain ⟨w, hw, rw'⟩ : ∃ w, valueAt vb k = some w ∧ RelV y w := by
          cases q : valueAt vb k with
          | none => rw [q] at rl; exact rl.elim
          | some w => rw [q] at rl; exact ⟨w, rfl, rl⟩
        have e1 : eqKv ((k, d) :: ds) es = (PyData.eqv d e && eqKv ds es) := by simp [eqKv, b]
        rw [e1]
        obtain ⟨as, r1⟩ := Dp.reads I d v u h ru
        obtain ⟨bs, r2⟩ := Dp.reads I e y w hy rw'
        exact .hit hw (PySem.W.keq_at r1 r2 sh se hu) (ih t)
def rEqDD (K : PySem.W.Frag) : R2 := fun x y H Q => ∃ a b ks ls ds es, x = .ref a ∧ y = .ref b ∧ H a = some (.dK ks) ∧ H b = some (.dK ls) ∧ DpKv K H ks ds ∧ DpKv K H ls es ∧ Q (.bl (ks.length == ls.length && eqKv ds es)) H
def rNeDD (K : PySem.W.Frag) : R2 := fun x y H Q => ∃ a b ks ls ds es, x = .ref a ∧ y = .ref b ∧ H a = some (.dK ks) ∧ H b = some (.dK ls) ∧ DpKv K H ks ds ∧ DpKv K H ls es ∧ Q (.bl (!(ks.length == ls.length && eqKv ds es))) H
theorem op_eqDD {X : Cx} (hu : X.A.units + 65 < cLine) : OpR X (compareOp .Eq) (rEqDD X.K) := by
  intro pins s σ H x y v u Q I rx ry h
  obtain ⟨a, b, ks, ls, ds, es, rfl, rfl, ea, eb, hd, he, q⟩ := h
  obtain rfl : v = Value.ref a := rx
  obtain rfl : u = Value.ref b := ry
  obtain ⟨_, ya, va, ra, da⟩ := (show ObjOk X.prog X.w H s.heap a (.dK ks) from I.hok a _ ea)
  obtain ⟨_, yb, vb, rb, db⟩ := (show ObjOk X.prog X.w H s.heap b (.dK ls) from I.hok b _ eb)
  refine PySem.W.keq_eq (knd := mixKind X.prog X.w) ya yb da db (by omega) (fun _ => hits_deep I (by show X.A.units + 1 + 64 < _; omega) rb he ra hd) ⟨.bl _, H, I, ?_, q⟩
  rw [ra.length, rb.length]
  rfl
theorem op_neDD {X : Cx} (hu : X.A.units + 65 < cLine) : OpR X (compareOp .NotEq) (rNeDD X.K) := by
  intro pins s σ H x y v u Q I rx ry h
  obtain ⟨a, b, ks, ls, ds, es, rfl, rfl, ea, eb, hd, he, q⟩ := h
  obtain rfl : v = Value.ref a := rx
  obtain rfl : u = Value.ref b := ry
  obtain ⟨_, ya, va, ra, da⟩ := (show ObjOk X.prog X.w H s.heap a (.dK ks) from I.hok a _ ea)
  obtain ⟨_, yb, vb, rb, db⟩ := (show ObjOk X.prog X.w H s.heap b (.dK ls) from I.hok b _ eb)
  refine PySem.W.keq_ne (knd := mixKind X.prog X.w) ya yb da db (by omega) (fun _ => hits_deep I (by show X.A.units + 1 + 64 < _; omega) rb he ra hd) ⟨.bl _, H, I, ?_, q⟩
  rw [ra.length, rb.length]
  rfl
/-- own methods that fit -/
def cands (g : G) (m : Str) (n : Nat) : List MtI := g.mts.filter fun i => decide (i.name = m) && (decide (i.n = n) && decide (i.ks = []))
theorem cands_ok {g : G} {m : Str} {n : Nat} {c : MtI} (h : c ∈ cands g m n) : c ∈ g.mts ∧ c.name = m ∧ c.n = n ∧ c.ks = [] := by
  unfold cands at h
  have := List.mem_filter.mp h
  simp only [Bool.and_eq_true, decide_eq_true_eq] at this
  exact ⟨this.1, this.2.1, this.2.2.1, this.2.2.2⟩
/-- what an own special of the class at C does with these values; no exception leaves it -/
def spc (g : G) (m : Str) (C : Addr) (x : V) (vs : List V) (H : Hp) (Q : VK) : Prop := ∃ c ∈ cands g m vs.length, c.cls = C ∧ c.sp (x :: c.arr vs []) H Q (fun _ _ _ => False)
def bLenG (g : G) : RC := fun xs H Q => match xs with
  | [x] => (match insOf H x with
    | some (_, C, _) => spc g "__len__" C x [] H fun v H' => match v with
        | .int n => (0 ≤ n ∧ n < 2 ^ 63) ∧ Q (.int n) H'
        | _ => False
    | none => bLen g.K xs H Q)
  | _ => False
def bStrG (g : G) : RC := fun xs H Q => match xs with
  | [x] => (match insOf H x with
    | some (_, C, _) => spc g "__str__" C x [] H fun v H' => match v with
        | .str y => Q (.str y) H'
        | _ => False
    | none => bStrOf xs H Q)
  | _ => False
def bBoolG (g : G) : RC := fun xs H Q => match xs with
  | [.int i] => Q (.bl (i != 0)) H
  | [.bl b] => Q (.bl b) H
  | [x] => (match insOf H x with
    | some (_, C, _) => (∃ cs, g.ats.lookup ("__bool__" : Str) = some cs ∧ C ∈ cs) ∧ spc g "__len__" C x [] H fun v H' => match v with
        | .int n => (0 ≤ n ∧ n < 2 ^ 63) ∧ Q (.bl (n != 0)) H'
        | _ => False
    | none => False)
  | _ => False
def eqOk (g : G) (C : Addr) (H : Hp) (y : V) : Prop := (tyN g.K H y).isSome = true ∨ ∃ b fs, insOf H y = some (b, C, fs)
def oEqG (g : G) : R2 := fun x y H Q => match insOf H x with
  | some (_, C, _) => eqOk g C H y ∧ spc g "__eq__" C x [y] H fun v H' => match v with
      | .bl b => Q (.bl b) H'
      | _ => False
  | none => oEq g.K x y H Q ∨ rEqDD g.K x y H Q
def oNeG (g : G) : R2 := fun x y H Q => match insOf H x with
  | some (_, C, _) => (∃ p ∈ g.nes, p.2 = C) ∧ eqOk g C H y ∧ spc g "__eq__" C x [y] H fun v H' => match v with
      | .bl b => Q (.bl (!b)) H'
      | _ => False
  | none => oNe g.K x y H Q ∨ rNeDD g.K x y H Q

section
variable {g : G} {lev : Nat} {X : Cx} {N : List Str} {sc : Scope} {W : WX}
theorem room_in3 {k : Nat} {A : Around} (r : Room (k + 1) A) : Room k A.in1.in1.in1 :=
  ⟨r.hd, by have := r.dp; show A.depth + 3 * k + 5 < _; omega, by have := r.un; show A.units + 1 + 1 + 1 + 16 * k + 200 < _; omega⟩
theorem room_in2 {k : Nat} {A : Around} (r : Room (k + 1) A) : Room k A.in1.in1 :=
  ⟨r.hd, by have := r.dp; show A.depth + 3 * k + 5 < _; omega, by have := r.un; show A.units + 1 + 1 + 16 * k + 200 < _; omega⟩
/-- an own def called somewhere below, no exception leaving it -/
theorem run_below {A : Around} {fa : Addr} {fd : FuncData} {ps : List Str} {sp : Sp} {n : Nat} {gf : List Value → List Value → List Value} {arr : List V → List V → List V} {pins : List (Addr × Obj)} {σ : St} {H : Hp} {s : Shared} {Q : VK} {us : List Value} {vs : List V}
    (hr : Room lev A) (hfr : A.frames = X.A.frames) (F : FnOk X.prog X.w X.K X.mg X.base (L2.CX X.prog X.w) lev fa fd ps sp) (hb : KBn X.K fd ps n [] gf arr)
    (I : Inv X pins σ H s) (r : Vals vs us) (l1 : vs.length = n) (h : sp (arr vs []) H Q (fun _ _ _ => False)) {E : Value → Shared → Prop} : wpAny (model X.prog X.w) A (call (.ref fa) us) (EP X pins σ Q) E s := by
  have r2 := hb.rel r (zs := []) (ws := []) .nil
  have e0 : Env0 X.prog X.w X.K X.mg X.base A X.stack s H := by
    have e := I.env0
    exact ⟨by rw [hfr]; exact e.frames, e.mod, e.bs, e.bsz, e.funs, e.frf, e.hok, e.bare⟩
  refine wpAny_call (codeAny_mono (F.run A X.stack s H ⟨us, []⟩ (gf us []) (arr vs []) Q _ hr e0 (hb.to s us [] I.kIn (r.length.symm.trans l1) rfl) r2 h) fun r s' hq => ?_)
  cases r with
  | error e => obtain ⟨_, _, _, _, _, _, _, _, _, _, _, _, z⟩ := hq; exact z.elim
  | ok fl =>
    cases fl with
    | ret u => exact I.after hq
    | next => exact False.elim hq
    | brk => exact False.elim hq
    | cont => exact False.elim hq
/-- an own special's parts -/
theorem spc_get (c : COk g lev X N sc W) {m : Str} {C a : Addr} {vs : List V} {us : List Value} {H : Hp} {Q : VK} (h : spc g m C (.ref a) vs H Q) : ∃ fa, PySem.W.findIn X.K (.ref C) m = some (some (.ref fa)) ∧ PySem.W.isFn X.K (.ref fa) = true ∧ Cls X.K C ∧
    ∀ {A : Around} {pins : List (Addr × Obj)} {σ : St} {s : Shared} {E : Value → Shared → Prop}, Room lev A → A.frames = X.A.frames → Inv X pins σ H s → Vals vs us → wpAny (model X.prog X.w) A (call (.ref fa) (.ref a :: us)) (EP X pins σ Q) E s := by
  obtain ⟨i, hi, hC, q⟩ := h
  obtain ⟨i1, i2, i3, i4⟩ := cands_ok hi
  obtain ⟨fa, fd, ps, gf, cl, me, F, kb⟩ := c.gok.mts i i1
  rw [hC] at cl me
  rw [i2] at me
  rw [i3, i4] at kb
  rw [← c.hK] at cl me F kb
  refine ⟨fa, me.at_, me.fn, cl, fun hr hf I r => ?_⟩
  exact run_below (vs := .ref a :: vs) hr hf F kb I (.cons rfl r) (by rw [List.length_cons]) q
theorem b_lenG (c : COk g lev X N sc W) (hl : CallR X (.builtin "len") (bLen g.K)) : CallR X (.builtin "len") (bLenG g) := by
  intro pins s σ H xs us Q I r h
  unfold bLenG at h
  split at h
  · rename_i x
    split at h
    · rename_i a C fs e
      obtain ⟨dx, rfl, ea⟩ := insOf_ok e
      obtain ⟨u, rfl, ru⟩ := vals1 r
      cases ru
      obtain ⟨fa, h1, h2, cl, run⟩ := spc_get (us := []) c h
      obtain ⟨mA, J, _⟩ := ins_get I.hok ea
      obtain ⟨od, J, _⟩ := J.look
      obtain ⟨m, hF⟩ := I.fr
      refine PySem.W.len_K hF I.ok.mod.kin J h1 h2 (wpAny_mono (run (c.room.in1) rfl I .nil) (fun u s' z => ?_) fun _ _ z => z)
      obtain ⟨v, H', I', rv, q⟩ := z
      cases v <;> first | exact q.elim | skip
      obtain ⟨t, rfl⟩ := rv
      exact ⟨q.1, ⟨.int _, H', I'.tok _, ⟨_, rfl⟩, q.2⟩⟩
    · exact hl pins s σ H _ us Q I r h
  · exact h.elim
theorem b_strG (c : COk g lev X N sc W) : CallR X (.type "str") (bStrG g) := by
  intro pins s σ H xs us Q I r h
  unfold bStrG at h
  split at h
  · rename_i x
    split at h
    · rename_i a C fs e
      obtain ⟨dx, rfl, ea⟩ := insOf_ok e
      obtain ⟨u, rfl, ru⟩ := vals1 r
      cases ru
      obtain ⟨fa, h1, h2, cl, run⟩ := spc_get (us := []) c h
      obtain ⟨mA, J, _⟩ := ins_get I.hok ea
      obtain ⟨od, J, _⟩ := J.look
      refine PySem.W.kso_call (by have := c.room.un; show X.A.units + 1 + 1 < _; omega) I.kIn J h1 h2 (wpAny_mono (run (room_in2 c.room) rfl I .nil) (fun u s' z => ?_) fun _ _ z => z)
      obtain ⟨v, H', I', rv, q⟩ := z
      cases v <;> first | exact q.elim | skip
      obtain ⟨t, rfl⟩ := rv
      exact ⟨.str _, H', I', ⟨_, rfl⟩, q⟩
    · exact b_str pins s σ H _ us Q I r h
  · exact h.elim
/-! ### == and != -/
theorem sub_no {K : PySem.W.Frag} {C : Addr} {n : String} {H : Hp} {x : V} (h : tyN K H x = some n) : PySem.W.notFirst K C (.type n) = true := by
  have key : ∀ m : String, m ∈ ["NoneType", "bool", "int", "str", "list", "tuple", "dict"] → PySem.W.notFirst K C (.type m) = true := by
    intro m hm
    simp only [List.mem_cons, List.not_mem_nil, or_false] at hm
    rcases hm with rfl | rfl | rfl | rfl | rfl | rfl | rfl <;> (first | rfl | kernel_rfl)
  refine key n ?_
  unfold tyN at h
  split at h
  all_goals try (cases h <;> simp)
  split at h
  all_goals try (cases h <;> simp)
  split at h <;> cases h <;> simp
theorem eq_looks {pins : List (Addr × Obj)} {σ : St} {H : Hp} {s : Shared} {C : Addr} {y : V} {v : Value} (c : COk g lev X N sc W) (I : Inv X pins σ H s) (ry : RelV y v) (h : eqOk g C H y) :
    ∃ tb, PySem.W.Looks (model X.prog X.w) s.heap (typeOf v) tb ∧ PySem.W.notFirst X.K C tb = true := by
  rcases h with h | ⟨b, fs, h⟩
  · cases e : tyN g.K H y with
    | none => rw [e] at h; cases h
    | some n =>
      have e2 := e
      rw [← c.hK] at e
      obtain ⟨P, Z, p, _⟩ := kit_of I ry (tyN_ok e)
      exact ⟨_, Z.ty _ _ I.kIn p, sub_no e⟩
  · obtain ⟨dx, rfl, ea⟩ := insOf_ok h
    cases ry
    obtain ⟨mA, J, _⟩ := ins_get I.hok ea
    obtain ⟨od, J, _⟩ := J.look
    exact ⟨_, J.type, by simp [PySem.W.notFirst]⟩
theorem r_eqG (c : COk g lev X N sc W) (ho : OpR X (compareOp .Eq) (oEq g.K)) : OpR X (compareOp .Eq) (oEqG g) := by
  intro pins s σ H x y v u Q I rx ry h
  unfold oEqG at h
  split at h
  · rename_i a C fs e
    obtain ⟨dx, rfl, ea⟩ := insOf_ok e
    cases rx
    obtain ⟨hy, h⟩ := h
    obtain ⟨tb, hb, hn⟩ := eq_looks c I ry hy
    obtain ⟨fa, h1, h2, cl, run⟩ := spc_get (us := [u]) c h
    obtain ⟨mA, J, _⟩ := ins_get I.hok ea
    obtain ⟨od, J, _⟩ := J.look
    obtain ⟨m, hF⟩ := I.fr
    show wpAny (model X.prog X.w) X.A (richCompare .Eq (.ref a) u) _ _ _
    refine PySem.W.cmp_K (op := .Eq) (by have := c.room.un; omega) hF I.ok.mod.kin J hb hn h1 h2 (wpAny_mono (run c.room0 rfl I (.cons ry .nil)) (fun r s' z => ?_) fun _ _ z => z)
    obtain ⟨w, H', I', rv, q⟩ := z
    cases w <;> first | exact q.elim | skip
    cases rv
    exact ⟨.bl _, H', I', rfl, q⟩
  · rcases h with h | h
    · exact ho pins s σ H x y v u Q I rx ry h
    · rw [← c.hK] at h
      exact op_eqDD (by have := c.room.un; omega) pins s σ H x y v u Q I rx ry h
end
end WR
namespace PySem.W
open PySem PySem.Spec PySem.Calls PyProof.Rows PySem.Builtin
section
variable {prog : Program} {w : World} {A : Around} {E : Value → Shared → Prop} {s : Shared} {K : Frag} {x C L f : Addr} {h₀ : Heap} {m : Str → Option Value} {ox : Obj} {od : Option Obj} {name : Str} {b tb : Value}
theorem wr_ifBoundB {M : Model} {id : String} {args : List Value} {Q : Option Value → Shared → Prop} (X : K.In s.heap) (I : InstAt s.heap x ox C od) (hs : findIn K (.ref C) name = some (some (.builtin id))) (hb : ∀ self, bindSpecial (.builtin id) self = pure (.builtin id, [self]))
    (h : wpAny M A (call (.builtin id) (.ref x :: args)) (fun v => Q (some v)) E s) : wpAny M A (callSpecialIfBound? (.ref x) name args) Q E s := by
  simp only [callSpecialIfBound?, bindSpecialIfBound?]
  refine wpAny_holding (wpAny_bind (wpAny_bind (wpAny_bind (I.type.here ((looks_findIn X hs).here ?_)))))
  refine wpAny_bind (wpAny_askSetting (wpAny_ite ?_))
  have fin : wpAny M A (call (.builtin id) ([.ref x] ++ args) >>= fun v => pure (some v)) Q E s := wpAny_bind (wpAny_mono h (fun v s' h' => wpAny_pure h') fun _ _ h' => h')
  split
  · exact wpAny_bind ((Looks.of_pure (hb _)).here (wpAny_pure (by exact fin)))
  · exact wpAny_tryCatch (wpAny_bind ((Looks.of_pure (hb _)).here (wpAny_pure (by exact fin))))
theorem wr_ne {Q : Value → Shared → Prop} (hu : A.units + 1 < cLine) (X : K.In s.heap) (I : InstAt s.heap x ox C od) (hb : Looks (model prog w) s.heap (typeOf b) tb) (hn : notFirst K C tb = true)
    (hne : findIn K (.ref C) "__ne__" = some (some (.builtin "object.__ne__"))) (hm : Looks (model prog w) s.heap (isInstance (.ref x) (.type "object")) true) (hs : findIn K (.ref C) "__eq__" = some (some (.ref f))) (hf : isFn K (.ref f) = true)
    (h : wpAny (model prog w) A.in1 (call (.ref f) [.ref x, b]) (fun v s' => ∃ r, v = .bool r ∧ Q (.bool (!r)) s') E s) : wpAny (model prog w) A (richCompare .NotEq (.ref x) b) Q E s := by
  have one : wpAny (model prog w) A (tryCompare (.ref x) "__ne__" b) (fun r s' => ∃ v, r = some v ∧ Q v s') E s := by
    unfold tryCompare
    refine wpAny_bind (wr_ifBoundB (id := "object.__ne__") X I hne PySem.F.slot_zip_ne.bind (wpAny_call (codeAny_call_builtin PySem.F.slot_zip_ne.plain F.cmpEntry_ne (check_slot F.cmpKind_ne F.cmpSplit_ne hm (F.cmpArgs_ne _ _) ?_))))
    unfold Builtin.«object.__ne__»
    refine wpAny_bind (m := slotArgs "__ne__" 1 _) (wpAny_pure ?_)
    refine wpAny_bind (wpAny_cRoomFor hu ?_)
    refine wpAny_bind (m := callSpecialIfBound? (.ref x) (Str.ofString "__eq__") [b]) (ifBound_K X I hs hf (wpAny_mono h (fun v s' hv => ?_) fun _ _ e => e))
    obtain ⟨r, rfl, hq⟩ := hv
    refine wpAny_bind (m := truthy (.bool r)) (wpAny_truthy_bool ?_)
    first | exact wpAny_pure ⟨_, rfl, wpAny_pure ⟨_, rfl, hq⟩⟩ | exact wpAny_pure (wpAny_pure ⟨_, rfl, hq⟩) | exact wpAny_pure ⟨_, rfl, hq⟩ | exact wpAny_pure ⟨_, rfl, wpAny_pure hq⟩
  unfold richCompare
  simp only [oneThing_ref]
  refine wpAny_holding (wpAny_bind (wpAny_cRoomFor (Nat.lt_of_succ_lt hu) ?_))
  refine wpAny_bind (I.type.here (wpAny_bind (hb.here ?_)))
  rw [cmpInfo_NotEq]
  dsimp only
  split
  · rename_i q
    have e : subIn K tb (.ref C) = some false := by
      rcases Bool.or_eq_true_iff.mp hn with e | e
      · rw [beq_iff_eq.mp e] at q; simp at q
      · exact beq_iff_eq.mp e
    refine wpAny_bind ((looks_subIn X e).here ?_)
    simp only [Bool.false_eq_true, if_false]
    refine wpAny_bind (wpAny_mono one (fun r s' z => ?_) fun _ _ e => e)
    obtain ⟨v, rfl, hq⟩ := z
    exact wpAny_pure hq
  · refine wpAny_bind (wpAny_pure ?_)
    simp only [Bool.false_eq_true, if_false]
    refine wpAny_bind (wpAny_mono one (fun r s' z => ?_) fun _ _ e => e)
    obtain ⟨v, rfl, hq⟩ := z
    exact wpAny_pure hq
theorem wr_truthy {Q : Bool → Shared → Prop} (X : K.In s.heap) (I : InstAt s.heap x ox C od) (hb : findIn K (.ref C) "__bool__" = some none) (hs : findIn K (.ref C) "__len__" = some (some (.ref f))) (hf : isFn K (.ref f) = true)
    (h : wpAny (model prog w) A.in1 (call (.ref f) [.ref x]) (fun r s' => ∃ n u, r = .int n u ∧ (0 ≤ n ∧ n < 2 ^ 63) ∧ Q (n != 0) { s' with toks := s'.toks + 1 }) E s) : wpAny (model prog w) A (truthy (.ref x)) Q E s := by
  have key : wpAny (model prog w) A (runValue (.builtin "len" ⟨[.ref x], []⟩)) (fun r s' => ∃ n t, r = .int n t ∧ Q (n != 0) s') E s := by
    refine wpAny_runValue (codeAny_builtin entry_len ?_)
    rw [Around.under_plainId plain_len _]
    unfold Builtin.«len»
    refine wpAny_bind (m := oneArg "len" _) (wpAny_pure ?_)
    refine wpAny_bind (m := callSpecial? (.ref x) (Str.ofString "__len__")) (special_fn X I hs (beq_iff_eq.mp hf) (wpAny_mono h (fun r s' hr => ?_) fun _ _ y => y))
    obtain ⟨n, u, rfl, ⟨h0, h1⟩, hq⟩ := hr
    refine wpAny_bind (wpAny_holding (wpAny_pure ?_))
    refine wpAny_bind (wpAny_letGo ?_)
    show wpAny _ _ (if n < 0 then _ else _) _ _ _
    rw [if_neg (by omega)]
    show wpAny _ _ (if n ≥ 2 ^ 63 then _ else _) _ _ _
    rw [if_neg (by omega)]
    exact wpAny_bind (wpAny_mkInt (wpAny_pure ⟨_, _, rfl, hq⟩))
  unfold truthy
  refine wpAny_bind (m := callSpecial? (.ref x) (Str.ofString "__bool__")) ?_
  refine wpAny_bind (wpAny_bind (I.type.here ((looks_findIn X hb).here ?_)))
  refine wpAny_pure ?_
  refine wpAny_bind (wpAny_bind (I.type.here ((looks_findIn X hs).here ?_)))
  show wpAny _ _ (if (some (Value.ref f)).isNone = true then _ else _) _ _ _
  rw [if_neg (by simp)]
  refine wpAny_bind (m := runValue _) (wpAny_mono key (fun v s' hv => ?_) fun _ _ e => e)
  obtain ⟨n, t, rfl, hq⟩ := hv
  exact wpAny_pure hq
theorem wr_bool {Q : Value → Shared → Prop} (h : wpAny (model prog w) A.in1.in1 (truthy (.ref x)) (fun b s' => Q (.bool b) s') E s) : wpAny (model prog w) A (call (.type "bool") [.ref x]) Q E s := by
  refine callType_newIn F.called_bool (by decide) (F.typeCall_bool_1 _) (F.newCall_bool_1 _) (fun obj => F.args_object_init_2 obj _) F.entry_bool_new (S := fun A R s => wpAny (model prog w) A.in1 (truthy (.ref x)) (fun b s' => R (.ok (.ret (.bool b))) s') (fun e s' => R (.error e) s') s) (MeetsIn.of_wp fun A R s hq => ?_) ?_
  · obtain ⟨hp, g, d, tk, os⟩ := s
    have f1 := F.conv_sub_bool
    repeat (any_goals (first | assumption | (refine wpAny_mono hq (fun b s' hb => ?_) fun _ _ e => e) | wp_step))
    all_goals first | exact ⟨_, rfl, hb⟩ | exact hb | skip
  · exact wpAny_mono h (fun b s' hb => ⟨rfl, hb⟩) fun _ _ e => e
end
end PySem.W

namespace WR
open PySem PySem.Spec PyProof.Rows L2
section
variable {g : G} {lev : Nat} {X : Cx} {N : List Str} {sc : Scope} {W : WX}
theorem r_neG (c : COk g lev X N sc W) (ho : OpR X (compareOp .NotEq) (oNe g.K)) : OpR X (compareOp .NotEq) (oNeG g) := by
  intro pins s σ H x y v u Q I rx ry h
  unfold oNeG at h
  split at h
  · rename_i a C fs e
    obtain ⟨dx, rfl, ea⟩ := insOf_ok e
    cases rx
    obtain ⟨⟨p, hp, hC⟩, hy, h⟩ := h
    subst hC
    have hne := (ownB_ok (c.gok.nes p hp)).1
    rw [← c.hK] at hne
    obtain ⟨tb, hb, hn⟩ := eq_looks c I ry hy
    obtain ⟨fa, h1, h2, cl, run⟩ := spc_get (us := [u]) c h
    obtain ⟨mA, J, _⟩ := ins_get I.hok ea
    obtain ⟨od, J, _⟩ := J.look
    show wpAny (model X.prog X.w) X.A (richCompare .NotEq (.ref a) u) _ _ _
    have hm : PySem.W.Looks (model X.prog X.w) s.heap (isInstance (.ref a) (.type "object")) true := by
      obtain ⟨cd, hc, ho⟩ := PySem.W.any_some cl.po
      have ne : cd.mro.isEmpty = false := by cases q : cd.mro with | nil => rw [q] at ho; cases ho | cons _ _ => rfl
      exact J.type.andThen (PySem.W.looks_mroIn I.kIn (by unfold PySem.W.mroIn; rw [hc, Option.bind_some, if_neg (by rw [ne]; decide), PySem.W.only_has ho]))
    refine PySem.W.wr_ne (by have := c.room.un; omega) I.kIn J hb hn hne hm h1 h2 (wpAny_mono (run c.room.in1 rfl I (.cons ry .nil)) (fun r s' z => ?_) fun _ _ z => z)
    obtain ⟨w, H', I', rv, q⟩ := z
    cases w <;> first | exact q.elim | skip
    cases rv
    exact ⟨_, rfl, .bl _, H', I', rfl, q⟩
  · rcases h with h | h
    · exact ho pins s σ H x y v u Q I rx ry h
    · rw [← c.hK] at h
      exact op_neDD (by have := c.room.un; omega) pins s σ H x y v u Q I rx ry h
theorem b_boolG (c : COk g lev X N sc W) : CallR X (.type "bool") (bBoolG g) := by
  intro pins s σ H xs us Q I r h
  unfold bBoolG at h
  split at h
  · exact call_bool1 pins s σ H _ us Q I r (.inl ⟨_, rfl, h⟩)
  · exact call_bool1 pins s σ H _ us Q I r (.inr ⟨_, rfl, h⟩)
  · split at h
    · rename_i x _ _ a C fs e
      obtain ⟨dx, rfl, ea⟩ := insOf_ok e
      obtain ⟨u, rfl, ru⟩ := vals1 r
      cases ru
      obtain ⟨⟨cs, hl, hC⟩, h⟩ := h
      obtain ⟨_, hb⟩ := c.gok.ats _ (lookup_mem hl) _ hC
      rw [← c.hK] at hb
      obtain ⟨fa, h1, h2, cl, run⟩ := spc_get (us := []) c h
      obtain ⟨mA, J, _⟩ := ins_get I.hok ea
      obtain ⟨od, J, _⟩ := J.look
      refine PySem.W.wr_bool (PySem.W.wr_truthy I.kIn J hb h1 h2 (wpAny_mono (run (room_in3 c.room) rfl I .nil) (fun u s' z => ?_) fun _ _ z => z))
      obtain ⟨v, H', I', rv, q⟩ := z
      cases v <;> first | exact q.elim | skip
      obtain ⟨t, rfl⟩ := rv
      exact ⟨_, _, rfl, q.1, ⟨.bl _, H', I'.tok _, rfl, q.2⟩⟩
    · exact h.elim
  · exact h.elim

/-- isinstance(x, D), D an own class -/
def bIsO (g : G) (D : Addr) : RC := fun xs H Q => match xs with
  | [x, .ref D'] => D' = D ∧ (match insOf H x with
    | some (_, C, _) => (∃ p ∈ g.nes, p.2 = C) ∧ ((C = D ∧ Q (.bl true) H) ∨ (PySem.W.kitOne g.K (.ref C) (.ref D) = some false ∧ Q (.bl false) H))
    | none => (tyN g.K H x).isSome = true ∧ Q (.bl false) H)
  | _ => False
theorem tyN_basic {K : PySem.W.Frag} {H : Hp} {x : V} {n : String} (h : tyN K H x = some n) : n ∈ basics := by
  unfold tyN at h
  split at h
  all_goals try (cases h <;> simp [basics])
  split at h
  all_goals try (cases h <;> simp [basics])
  split at h <;> cases h <;> simp [basics]
theorem b_isO (c : COk g lev X N sc W) {D : Str × Addr} (hD : D ∈ g.nes) : CallR X (.builtin "isinstance") (bIsO g D.2) := by
  refine CallR_imp call_isi fun xs H Q h => ?_
  rw [c.hK]
  unfold bIsO at h
  split at h
  · obtain ⟨rfl, h⟩ := h
    have hcl := c.gok.nec D hD
    obtain ⟨k1, k2, k3, k4, k5, k6, k7⟩ := ownB_ok (c.gok.nes D hD)
    split at h
    · rename_i a C fs e
      obtain ⟨dx, rfl, ea⟩ := insOf_ok e
      obtain ⟨⟨p, hp, rfl⟩, h⟩ := h
      obtain ⟨m1, m2, m3, m4, m5, m6, m7⟩ := ownB_ok (c.gok.nes p hp)
      rcases h with ⟨hC, h⟩ | ⟨hk, h⟩
      · rw [hC] at ea
        exact ⟨_, _, _, _, true, rfl, .own _, .base (.ins ea hcl k2 k3 k4 k5), k6, h⟩
      · rcases c.gok.nec p hp with cl
        exact ⟨_, _, _, _, false, rfl, .own _, .base (.ins ea cl m2 m3 m4 m5), hk, h⟩
    · cases e : tyN g.K H _ with
      | none => rw [e] at h; cases h.1
      | some n => exact ⟨_, _, _, _, false, rfl, .own _, tyN_ok e, k7 n (tyN_basic e), h.2⟩
  · exact h.elim
/-! ### sorted -/
def allStr : List V → Option (List Str)
  | [] => some []
  | .str x :: r => (allStr r).map (x :: ·)
  | _ => none
def allInt : List V → Option (List Int)
  | [] => some []
  | .int x :: r => (allInt r).map (x :: ·)
  | _ => none
theorem allStr_ok : ∀ {vs : List V} {ss : List Str}, allStr vs = some ss → vs = ss.map V.str
  | [], ss, h => by cases h; rfl
  | v :: r, ss, h => by
    cases v <;> simp [allStr] at h
    obtain ⟨l, hl, rfl⟩ := h
    rw [allStr_ok hl]; rfl
theorem allInt_ok : ∀ {vs : List V} {ss : List Int}, allInt vs = some ss → vs = ss.map V.int
  | [], ss, h => by cases h; rfl
  | v :: r, ss, h => by
    cases v <;> simp [allInt] at h
    obtain ⟨l, hl, rfl⟩ := h
    rw [allInt_ok hl]; rfl
theorem allStr_map : ∀ ss : List Str, allStr (ss.map V.str) = some ss
  | [] => rfl
  | x :: r => by show (allStr (r.map V.str)).map (x :: ·) = _; rw [allStr_map r]; rfl
theorem allInt_map : ∀ ss : List Int, allInt (ss.map V.int) = some ss
  | [] => rfl
  | x :: r => by show (allInt (r.map V.int)).map (x :: ·) = _; rw [allInt_map r]; rfl
def keysS : List (Key × V) → Option (List Str)
  | [] => some []
  | (.inr x, _) :: r => (keysS r).map (x :: ·)
  | _ => none
theorem keysS_ok : ∀ {kvs : List (Key × V)} {ss : List Str}, keysS kvs = some ss → kvs.map (·.1) = ss.map Sum.inr
  | [], ss, h => by cases h; rfl
  | (k, v) :: r, ss, h => by
    cases k with
    | inl i => simp [keysS] at h
    | inr x =>
      simp [keysS] at h
      obtain ⟨l, hl, rfl⟩ := h
      rw [List.map_cons, List.map_cons, keysS_ok hl]
/-- sorted(..) of texts, of whole numbers, of a dict's text keys -/
def bSorted (K : PySem.W.Frag) : RC := fun xs H Q => match xs with
  | [.ref a] => (match look K H a with
    | some (.lst vs) => (match allStr vs with
      | some ss => ss.length < 64 ∧ ∀ ys : List Str, ys.Perm ss → sortedS ys = true → ∀ p, H p = none → Q (.ref p) (upd H p (.lst (ys.map V.str)))
      | none => (match allInt vs with
        | some ns => ∀ ys : List Int, ys.Perm ns → ys.Pairwise (· ≤ ·) → ∀ p, H p = none → Q (.ref p) (upd H p (.lst (ys.map V.int)))
        | none => False))
    | some (.dK kvs) => (match keysS kvs with
      | some ss => ss.length < 64 ∧ ∀ ys : List Str, ys.Perm ss → sortedS ys = true → ∀ p, H p = none → Q (.ref p) (upd H p (.lst (ys.map V.str)))
      | none => False)
    | _ => False)
  | _ => False
theorem b_sorted (hc : X.calm = true) : CallR X (.builtin "sorted") (bSorted X.K) := by
  refine CallR_imp (cr_sortedS.or (cr_sortedI.or (call_sortedD hc))) fun xs H Q h => ?_
  unfold bSorted at h
  split at h
  · split at h
    · rename_i vs e
      split at h
      · rename_i ss es
        rw [allStr_ok es] at e
        exact .inl ⟨_, ss, rfl, look_lst e, h.1, fun ys p h1 h2 h3 => h.2 ys h1 h2 p h3⟩
      · split at h
        · rename_i ns es
          rw [allInt_ok es] at e
          exact .inr (.inl ⟨_, ns, rfl, look_lst e, fun ys p h1 h2 h3 => h ys h1 h2 p h3⟩)
        · exact h.elim
    · rename_i kvs e
      split at h
      · rename_i ss es
        exact .inr (.inr ⟨_, kvs, ss, rfl, look_dK e, keysS_ok es, h.1, fun ys p h1 h2 h3 => h.2 ys h1 h2 p h3⟩)
      · exact h.elim
    · exact h.elim
  · exact h.elim
end

/-! ### f'..', dict comprehensions -/
def cFmt (te : TE) : TE := fun σ H Q => te σ H fun x H1 => match x with
  | .str y => y.length ≤ sizeLine ∧ Q (.str y) H1
  | .int i => i.natAbs.log2 < 1920 ∧ Q (.str (toString i)) H1
  | _ => False
/-- the texts one behind the other -/
def cJs : List TE → Str → St → Hp → (Str → Hp → Prop) → Prop
  | [], acc, _, H, Q => Q acc H
  | t :: ts, acc, σ, H, Q => t σ H fun x H1 => match x with
    | .str y => (acc ++ y).length ≤ sizeLine ∧ cJs ts (acc ++ y) σ H1 Q
    | _ => False
/-- a dict comprehension's turns -/
def lpd (J : It) (g : TG) (tt : TT) (tk tv : TE) (vs : List Nat) (σ : St) (D : Addr) (Q : VK) : Nat → Nat → Hp → Prop
  | 0, i, H => J.stop i H ∧ Q (.ref D) H
  | n + 1, i, H => (J.stop i H ∧ Q (.ref D) H) ∨ (J.go i H ∧ ∀ x H', J.yld i H x H' → g x (wipe σ vs) H' fun σ2 H2 => wipe σ2 vs = wipe σ vs ∧ tt σ2 H2 fun b H3 =>
      if b = true then tk σ2 H3 fun y H4 => tv σ2 H4 fun z H5 => ∃ kvs k, y = kV k ∧ H5 D = some (.dK kvs) ∧ kvs.length < sizeLine ∧ lpd J g tt tk tv vs σ D Q n (i + 1) (upd H5 D (.dK (putK kvs k z)))
      else lpd J g tt tk tv vs σ D Q n (i + 1) H3)
def cDc (wi : TI) (g : TG) (tt : TT) (tk tv : TE) (vs : List Nat) : TE := fun σ H Q => wi σ H fun J H1 => ∀ D, H1 D = none → ∃ n, lpd J g tt tk tv vs σ D Q n 0 (upd H1 D (.dK []))
end WR

set_option Elab.async false
set_option linter.all false
set_option maxRecDepth 100000
set_option maxHeartbeats 4000000
namespace WR
open PySem PySem.Spec PyProof.Rows L2

/-! ## 14. the translation of expressions -/
abbrev OE := Option (WX → TE)
abbrev FE := List Str → Scope → Expr → OE
abbrev FT := List Str → Scope → Expr → Option (WX → TT)

def opR (K : PySem.W.Frag) : Operator → Option R2
  | .Add => some (oAdd K)
  | .Sub => some oSub
  | .Mult => some oMul
  | .FloorDiv => some oFdiv
  | .Mod => some oMod
  | .Pow => some oPow
  | .LShift => some oShl
  | _ => none
def cmpR (g : G) : CmpOp → Option R2
  | .Lt => some oLt
  | .LtE => some oLe
  | .Gt => some oGt
  | .GtE => some oGe
  | .Eq => some (oEqG g)
  | .NotEq => some (oNeG g)
  | .In => some (oIn g.K false)
  | .NotIn => some (oIn g.K true)
  | .Is => some oIs
  | .IsNot => some oIsNot
def notSet : Expr → Bool
  | .Set _ _ _ => false
  | _ => true
theorem notSet_b {op : CmpOp} {e : Expr} (h : notSet e = true) : behindInMarks op e = false := by
  cases e <;> first | rfl | exact absurd h Bool.false_ne_true
theorem notSet_l {o o' : CmpOp} {b e : Expr} (h : notSet e = true) : lastMarks [o, o'] [b, e] = false := notSet_b (op := o') h

def tArgs (f : Expr → OE) : List Expr → Option (WX → TA)
  | [] => some fun _ => tNil
  | e :: es => if notStar e = true then match f e, tArgs f es with
      | some te, some t => some fun W => tCons (te W) (t W)
      | _, _ => none
    else none
def tKws (f : Expr → OE) : List Keyword → Option (WX → TA)
  | [] => some fun _ => tNil
  | k :: ks => match f k.value, tKws f ks with
      | some te, some t => some fun W => tCons (te W) (t W)
      | _, _ => none
def cAnd (K : PySem.W.Frag) (ta tb : TE) : TE := fun σ H Q => ta σ H fun x H1 => match oTru K x H1 with
  | some true => tb σ H1 Q
  | some false => Q x H1
  | none => False
def cOr (K : PySem.W.Frag) (ta tb : TE) : TE := fun σ H Q => ta σ H fun x H1 => match oTru K x H1 with
  | some true => Q x H1
  | some false => tb σ H1 Q
  | none => False
def cNot (K : PySem.W.Frag) (ta : TE) : TE := fun σ H Q => ta σ H fun x H1 => match oTru K x H1 with
  | some b => Q (.bl (!b)) H1
  | none => False
def cTest (t : TE) : TT := fun σ H Q => t σ H fun x H1 => match x with
  | .bl k => Q k H1
  | _ => False
def tBool (K : PySem.W.Frag) (f : Expr → OE) (isAnd : Bool) : List Expr → OE
  | [] => none
  | [e] => f e
  | e :: es => match f e, tBool K f isAnd es with
    | some ta, some tb => some fun W => if isAnd then cAnd K (ta W) (tb W) else cOr K (ta W) (tb W)
    | _, _ => none
def tBoolT (f : Expr → Option (WX → TT)) (isAnd : Bool) : List Expr → Option (WX → TT)
  | [] => none
  | [e] => f e
  | e :: es => match f e, tBoolT f isAnd es with
    | some ta, some tb => some fun W => if isAnd then tAnd (ta W) (tb W) else tOr (ta W) (tb W)
    | _, _ => none
/-- comparisons a op b op' c -/
def cChain (r r' : R2) (ta tb tc : TE) : TE := fun σ H Q => ta σ H fun x H1 => tb σ H1 fun y H2 => r x y H2 fun z H3 => match z with
  | .bl true => tc σ H3 fun w' H4 => r' y w' H4 Q
  | .bl false => Q (.bl false) H3
  | _ => False
def cUn (ta : TE) : TE := fun σ H Q => ta σ H fun x H1 => match x with
  | .int i => Q (.int (-i)) H1
  | _ => False
def cPart (t : TE) : TO := fun σ H Q => t σ H fun x H1 => match x with
  | .int i => Q (some i) H1
  | _ => False
def tPartO (f : Expr → OE) : Option Expr → Option (WX → TO)
  | none => some fun _ => tNoPart
  | some e => match f e with
    | some t => some fun W => cPart (t W)
    | none => none
/-- built-in functions by name -/
def bltTab (g : G) : List (Str × Value × RC) := [("len", .builtin "len", bLenG g), ("isinstance", .builtin "isinstance", bIsi g.K), ("all", .builtin "all", bAll g.K), ("any", .builtin "any", bAny g.K), ("sum", .builtin "sum", bSum g.K),
  ("abs", .builtin "abs", bAbs), ("max", .builtin "max", bMax), ("min", .builtin "min", bMin), ("ord", .builtin "ord", bOrd), ("int", .type "int", bInt), ("str", .type "str", bStrG g), ("list", .type "list", bList g.K), ("tuple", .type "tuple", bTuple g.K), ("dict", .type "dict", bDict g.K),
  ("bool", .type "bool", bBoolG g), ("sorted", .builtin "sorted", bSorted g.K)]
def bltR (g : G) (x : Str) : Option (Value × RC) := (bltTab g).lookup x
/-- isinstance(.., D), D an own class by its name -/
def isOwn (g : G) (sc : Scope) (x : Str) : List Expr → Option (Str × Addr)
  | [_, .Name c _] => if x = "isinstance" ∧ sc.names.lookup c = some .globalImplicit then g.nes.find? (fun p => decide (p.1 = c)) else none
  | _ => none
def cMk (C : Addr) (n m : Nat) (arr : List V → List V → List V) (sp : Sp) (t tk : TA) (W : WX) : TE := fun σ H Q => t σ H fun vs H1 => tk σ H1 fun zs H2 => vs.length = n ∧ zs.length = m ∧ ∀ x dx, H2 x = none → H2 dx = none → dx ≠ x →
  sp (.ref x :: arr vs zs) (upd (upd H2 dx (.own x)) x (.ins C dx [])) (fun v H3 => v = .non ∧ Q (.ref x) H3) (fun cls d H' => W cls d σ H')
def tCallName (g : G) (f : Expr → OE) (sc : Scope) (x : Str) (es : List Expr) (kws : List Keyword) : OE :=
  if plainName x = true ∧ sc.names.lookup x = some .globalImplicit then
    match kwNames kws, tArgs f es, tKws f kws with
    | some ks, some t, some tk => match g.fns.find? (fun i => decide (i.name = x) && decide (i.n = es.length) && decide (i.ks = ks)) with
      | some i => some fun W => cCall i.sp es.length ks.length i.arr (t W) (tk W) W
      | none => match g.mks.find? (fun i => decide (i.name = x) && decide (i.n = es.length) && decide (i.ks = ks)) with
        | some i => some fun W => cMk i.cls es.length ks.length i.arr i.sp (t W) (tk W) W
        | none => if x ∈ g.blt ∧ kws = [] ∧ es ≠ [] then match (match isOwn g sc x es with | some D => some (Value.builtin "isinstance", bIsO g D.2) | none => bltR g x) with
            | some (v, r) => if bootBuiltins x = some v then some fun W => tCB r (t W) else none
            | none => none
          else none
    | _, _, _ => none
  else none
/-- attributes of own classes -/
def cAttr (cands : List Addr) (f : Str) (ta : TE) : TE := fun σ H Q => ta σ H fun x H1 => match insOf H1 x with
  | some (_, C, fs) => C ∈ cands ∧ (match fs.lookup f with
    | some v => Q v H1
    | none => False)
  | none => False
def tPairsL (f : Expr → OE) : List (Option Expr) → List Expr → Option (List (WX → TE × TE))
  | [], [] => some []
  | some k :: ks, v :: vs => match f k, f v, tPairsL f ks vs with
    | some tk, some tv, some r => some ((fun W => (tk W, tv W)) :: r)
    | _, _, _ => none
  | _, _ => none
def tDict (f : Expr → OE) (ks : List (Option Expr)) (vs : List Expr) : OE := match ks, vs with
  | [], [] => some fun _ => tDNewK
  | ks, vs => if ks.length ≤ 15 then (match tPairsL f ks vs with
    | some trs => some fun W => tDisp (trs.map fun t => t W)
    | none => none) else none
end WR

set_option Elab.async false
set_option linter.all false
set_option maxRecDepth 100000
set_option maxHeartbeats 4000000
namespace WR
open PySem PySem.Spec PyProof.Rows L2

/-! ## 15. what a for walks; loops by turns -/
def cIter (K : PySem.W.Frag) (ta : TE) : TI := fun σ H R => ta σ H fun x H1 => match x with
  | .ref a => (match look K H1 a with
    | some (.lst _) => R (Itl K a) H1
    | some (.tup _) => R (Itt K a) H1
    | _ => (match H1 a with
      | some (.frz o (.dK kvs)) => R (Itk a o kvs) H1
      | some (.frz o (.dT kvs)) => R (Itkt a o kvs) H1
      | _ => False))
  | .str z => R (Its z) H1
  | _ => False
def cRng1 (ta : TA) : TI := fun σ H R => ta σ H fun vs H1 => match vs with
  | [.int j] => (-(2 ^ 62) ≤ j ∧ j < 2 ^ 62) ∧ R (Itr 0 j.toNat) H1
  | _ => False
def cRng2 (ta : TA) : TI := fun σ H R => ta σ H fun vs H1 => match vs with
  | [.int i, .int j] => (-(2 ^ 62) ≤ i ∧ i < 2 ^ 62 ∧ -(2 ^ 62) ≤ j ∧ j < 2 ^ 62) ∧ R (Itr i (j - i).toNat) H1
  | _ => False
def cRng3 (ta : TA) : TI := fun σ H R => ta σ H fun vs H1 => match vs with
  | [.int i, .int j, .int c] => ∃ n, RgC i j c n ∧ R (Itc i c n) H1
  | _ => False
def cEnum (K : PySem.W.Frag) (ta : TA) : TI := fun σ H R => ta σ H fun vs H1 => match vs with
  | [.ref a] => (match look K H1 a with
    | some (.lst _) => R (Ite K a) H1
    | _ => False)
  | _ => False
def cZip (K : PySem.W.Frag) (ta : TA) : TI := fun σ H R => ta σ H fun vs H1 => match vs with
  | [.ref a, .ref b] => (match look K H1 a, look K H1 b with
    | some (.lst _), some (.lst _) => R (Itz K a b) H1
    | _, _ => False)
  | _ => False
def cRev (K : PySem.W.Frag) (ta : TA) : TI := fun σ H R => ta σ H fun vs H1 => match vs with
  | [.ref a] => (match look K H1 a with
    | some (.lst xs) => R (Itv K a xs.length) H1
    | _ => False)
  | _ => False
def cDview (k : Nat) (td : TE) : TI := fun σ H R => td σ H fun x H1 => match x with
  | .ref d => (match H1 d with
    | some (.frz o (.dK kvs)) => R (if k = 0 then Itk d o kvs else if k = 1 then Itd d o kvs else Iti d o kvs) H1
    | _ => False)
  | _ => False
section
variable {X : Cx} {tg : Expr}
theorem PI_imp {l : Expr} {t t' : TI} (h : PI X tg l t) (k : ∀ σ H R, t' σ H R → t σ H R) : PI X tg l t' := ⟨fun pins s σ H R I q => h.run pins s σ H R I (k σ H R q)⟩
theorem pi_dyn {l : Expr} {tl : TE} (hl : PE X l tl) : PI X tg l (cIter X.K tl) := by
  refine ⟨fun pins s σ H R I h => ?_⟩
  refine thn (hl.run pins s σ H _ I h) fun v s1 ⟨x, H1, I1, r1, q1⟩ => ?_
  dsimp only at q1
  split at q1
  · rename_i a
    split at q1
    · rename_i xs e
      cases r1
      obtain ⟨its, rv, p, hz⟩ := I1.list (look_lst e)
      exact wpAny_pyIter_list p.isList (pi_one (tk := s1.toks) I1 _ (turn_list a _) ⟨_, Heap.get?_push_size _ rfl, rfl, rfl⟩ q1)
    · rename_i xs e
      cases r1
      obtain ⟨its, rv, p, hz⟩ := I1.tuple (look_tup e)
      exact wpAny_pyIter_tuple (show s1.heap.IsTuple a its.toArray from p) (pi_one (tk := s1.toks) I1 _ (turn_tuple a _) ⟨_, Heap.get?_push_size _ rfl, rfl, rfl⟩ q1)
    · split at q1
      · rename_i o kvs hd
        obtain rfl : v = Value.ref a := r1
        obtain ⟨hs, hgd, hx, es, ep, vs, hdt, hsz, kv, hm⟩ := I1.frzK hd
        refine iter_keys hs hgd hx hdt (pi_one (tk := s1.toks) I1 _ (turn_keys _ hdt) ⟨_, Heap.get?_push_size _ rfl, rfl, ?_⟩ q1)
        rw [hsz] <;> rfl
      · rename_i o kvs hd
        obtain rfl : v = Value.ref a := r1
        obtain ⟨hs, hgd, hx, es, ep, hdt, hsz, ent⟩ := I1.frzT hd
        refine iter_keys hs hgd hx hdt (pi_one (tk := s1.toks) I1 _ (turn_keysT _ hdt) ⟨_, Heap.get?_push_size _ rfl, rfl, ?_⟩ q1)
        rw [hsz] <;> rfl
      · exact q1.elim
  · rename_i x
    obtain ⟨t, rfl⟩ := r1
    cases ha : x.cps.all (· < 128)
    · exact wpAny_pyIter_wide ha (pi_one (tk := s1.toks) I1 _ (turn_str _ x t "str_iterator" (.inr rfl)) ⟨_, Heap.get?_push_size _ rfl, rfl, rfl⟩ q1)
    · exact wpAny_pyIter_ascii ha (pi_one (tk := s1.toks) I1 _ (turn_str _ x t "str_ascii_iterator" (.inl rfl)) ⟨_, Heap.get?_push_size _ rfl, rfl, rfl⟩ q1)
  · exact q1.elim
end

/-- a dict that is walked is locked from then on (where it isn't locked for the statement alone) -/
def frzE (t : TE) : TE := fun σ H Q => t σ H fun x H1 => match x with
  | .ref d => (match H1 d with
    | some (.dK kvs) => ∀ o, Q (.ref d) (upd H1 d (.frz o (.dK kvs)))
    | _ => Q (.ref d) H1)
  | x => Q x H1
theorem pe_frz {X : Cx} {e : Expr} {t : TE} (h : PE X e t) : PE X e (frzE t) := by
  refine ⟨fun pins s σ H Q I q => ?_⟩
  refine thn (h.run pins s σ H _ I q) fun v s1 ⟨x, H1, I1, r1, q1⟩ => ?_
  dsimp only at q1
  split at q1
  · split at q1
    · rename_i e
      obtain ⟨od, I2⟩ := I1.lock e trivial
      exact ⟨_, _, I2, r1, q1 od⟩
    · exact ⟨_, _, I1, r1, q1⟩
  · exact ⟨_, _, I1, r1, q1⟩
/-- a for's turns -/
def lp (J : It) (g : TG) (tb : TS) (D : Ends) : Nat → Nat → St → Hp → Prop
  | 0, i, σ, H => J.stop i H ∧ D.nx σ H
  | n + 1, i, σ, H => (J.stop i H ∧ D.nx σ H) ∨ (J.go i H ∧ ∀ x H', J.yld i H x H' → g x σ H' fun σ2 H2 => tb { D with nx := lp J g tb D n (i + 1), ct := lp J g tb D n (i + 1), bk := D.nx } σ2 H2)
def cFor (wi : TI) (g : TG) (tb : TS) : TS := fun D σ H => wi σ H fun J H1 => ∃ n, lp J g tb D n 0 σ H1
/-- TI's readings are monotone in what is wanted: asked of the very ones that are used -/
def MonoI (wi : TI) : Prop := ∀ σ H R R', (∀ J H', R J H' → R' J H') → wi σ H R → wi σ H R'
theorem lp_W {J : It} {g : TG} {tb : TS} {D : Ends} {σ : St} {H1 : Hp} (h : ∃ n, lp J g tb D n 0 σ H1) :
    ∃ W : Nat → Nat → St → Hp → Prop, (∃ m, W 0 m σ H1) ∧ ∀ i m σ H, W i m σ H →
      (J.stop i H ∧ D.nx σ H) ∨ (J.go i H ∧ ∃ N : St → Hp → Prop, (∀ σ' H', N σ' H' → ∃ m', m' < m ∧ W (i + 1) m' σ' H') ∧ ∀ x H', J.yld i H x H' → g x σ H' fun σ2 H2 => tb { D with nx := N, ct := N, bk := D.nx } σ2 H2) := by
  obtain ⟨n, h⟩ := h
  refine ⟨fun i m σ H => lp J g tb D m i σ H, ⟨n, h⟩, fun i m σ H w => ?_⟩
  cases m with
  | zero => exact .inl w
  | succ m =>
    rcases w with w | ⟨go, w⟩
    · exact .inl w
    · exact .inr ⟨go, lp J g tb D m (i + 1), fun σ' H' q => ⟨m, Nat.lt_succ_self _, q⟩, w⟩
/-- a comprehension's turns -/
def lpc (J : It) (g : TG) (tt : TT) (te : TE) (vs : List Nat) (σ : St) (D : Addr) (Q : VK) : Nat → Nat → Hp → Prop
  | 0, i, H => J.stop i H ∧ Q (.ref D) H
  | n + 1, i, H => (J.stop i H ∧ Q (.ref D) H) ∨ (J.go i H ∧ ∀ x H', J.yld i H x H' → g x (wipe σ vs) H' fun σ2 H2 => wipe σ2 vs = wipe σ vs ∧ tt σ2 H2 fun b H3 =>
      if b = true then te σ2 H3 fun y H4 => ∃ acc, H4 D = some (.lst acc) ∧ acc.length < sizeLine ∧ lpc J g tt te vs σ D Q n (i + 1) (upd H4 D (.lst (acc ++ [y]))) else lpc J g tt te vs σ D Q n (i + 1) H3)
def cLc (wi : TI) (g : TG) (tt : TT) (te : TE) (vs : List Nat) : TE := fun σ H Q => wi σ H fun J H1 => ∀ D, H1 D = none → ∃ n, lpc J g tt te vs σ D Q n 0 (upd H1 D (.lst []))
theorem lpc_W {J : It} {g : TG} {tt : TT} {te : TE} {vs : List Nat} {σ : St} {D : Addr} {Q : VK} {H1 : Hp} (h : ∃ n, lpc J g tt te vs σ D Q n 0 H1) :
    ∃ W : Nat → Nat → Hp → Prop, (∃ m, W 0 m H1) ∧ ∀ i m H, W i m H →
      (J.stop i H ∧ Q (.ref D) H) ∨ (J.go i H ∧ ∃ Nx : Hp → Prop, (∀ H', Nx H' → ∃ m', m' < m ∧ W (i + 1) m' H') ∧ ∀ x H', J.yld i H x H' → g x (wipe σ vs) H' fun σ2 H2 => wipe σ2 vs = wipe σ vs ∧ tt σ2 H2 fun b H3 =>
        if b = true then te σ2 H3 fun y H4 => ∃ acc, H4 D = some (.lst acc) ∧ acc.length < sizeLine ∧ Nx (upd H4 D (.lst (acc ++ [y]))) else Nx H3) := by
  obtain ⟨n, h⟩ := h
  refine ⟨fun i m H => lpc J g tt te vs σ D Q m i H, ⟨n, h⟩, fun i m H w => ?_⟩
  cases m with
  | zero => exact .inl w
  | succ m =>
    rcases w with w | ⟨go, w⟩
    · exact .inl w
    · exact .inr ⟨go, lpc J g tt te vs σ D Q m (i + 1), fun H' q => ⟨m, Nat.lt_succ_self _, q⟩, w⟩
/-- a while's turns -/
def lpw (c : TT) (tb : TS) (D : Ends) : Nat → St → Hp → Prop
  | 0, _, _ => False
  | n + 1, σ, H => c σ H fun b H1 => if b = true then tb { D with nx := lpw c tb D n, ct := lpw c tb D n, bk := D.nx } σ H1 else D.nx σ H1
def cWhile (c : TT) (tb : TS) : TS := fun D σ H => ∃ n, lpw c tb D n σ H
end WR

set_option Elab.async false
set_option linter.all false
set_option maxRecDepth 100000
set_option maxHeartbeats 4000000
namespace WR
open PySem PySem.Spec PyProof.Rows L2

/-! ## 16. readings closed upwards -/
def upE (t : TE) : TE := fun σ H Q => ∃ Q0 : VK, t σ H Q0 ∧ ∀ v H', Q0 v H' → Q v H'
def upT (t : TT) : TT := fun σ H Q => ∃ Q0 : Bool → Hp → Prop, t σ H Q0 ∧ ∀ v H', Q0 v H' → Q v H'
def upI (t : TI) : TI := fun σ H R => ∃ R0 : It → Hp → Prop, t σ H R0 ∧ ∀ J H', R0 J H' → R J H'
section
variable {X : Cx}
theorem PE_up {e : Expr} {t : TE} (h : PE X e t) : PE X e (upE t) := ⟨fun pins s σ H Q I ⟨Q0, q, k⟩ => thn (h.run pins s σ H Q0 I q) fun _ _ ⟨v, H', I', r, z⟩ => ⟨v, H', I', r, k v H' z⟩⟩
theorem PT_up {e : Expr} {t : TT} (h : PT X e t) : PT X e (upT t) := ⟨fun pins s σ H Q I ⟨Q0, q, k⟩ => thn (h.run pins s σ H Q0 I q) fun _ _ ⟨H', I', z⟩ => ⟨H', I', k _ H' z⟩⟩
theorem PI_up {tg l : Expr} {t : TI} (h : PI X tg l t) : PI X tg l (upI t) := ⟨fun pins s σ H R I ⟨R0, q, k⟩ => thn (h.run pins s σ H R0 I q) fun _ _ z => thn z fun _ _ ⟨it, fp, tn, J, H', a, b, c, d, e, f⟩ => ⟨it, fp, tn, J, H', a, b, c, d, e, k J H' f⟩⟩
theorem pe_and' {a b : Expr} {rest : List Expr} {pos : Pos} {ta tb : TE} (ha : PE X a ta) (hb : PE X (.BoolOp .And (b :: rest) pos) tb) : PE X (.BoolOp .And (a :: b :: rest) pos) (cAnd X.K ta tb) :=
  PE_imp (pe_andT (PE_up ha) hb) fun σ H Q h => ⟨_, h, fun x H1 q => by
    try dsimp only at q
    split at q
    · rename_i e; exact ⟨true, oTru_ok e, iteT q⟩
    · rename_i e; exact ⟨false, oTru_ok e, iteF q⟩
    · exact q.elim⟩
theorem pe_or' {a b : Expr} {rest : List Expr} {pos : Pos} {ta tb : TE} (ha : PE X a ta) (hb : PE X (.BoolOp .Or (b :: rest) pos) tb) : PE X (.BoolOp .Or (a :: b :: rest) pos) (cOr X.K ta tb) :=
  PE_imp (pe_orT (PE_up ha) hb) fun σ H Q h => ⟨_, h, fun x H1 q => by
    try dsimp only at q
    split at q
    · rename_i e; exact ⟨true, oTru_ok e, iteT q⟩
    · rename_i e; exact ⟨false, oTru_ok e, iteF q⟩
    · exact q.elim⟩
theorem pe_not' {a : Expr} {pos : Pos} {ta : TE} (ha : PE X a ta) : PE X (.UnaryOp .Not a pos) (cNot X.K ta) :=
  PE_imp (pe_notT (PE_up ha)) fun σ H Q h => ⟨_, h, fun x H1 q => by
    try dsimp only at q
    split at q
    · rename_i e; exact ⟨_, oTru_ok e, q⟩
    · exact q.elim⟩
theorem pe_neg' {a : Expr} {pos : Pos} {ta : TE} (ha : PE X a ta) : PE X (.UnaryOp .USub a pos) (cUn ta) :=
  PE_imp (pe_un un_neg (PE_up ha)) fun σ H Q h => ⟨_, h, fun x H1 q => by
    try dsimp only at q
    split at q
    · exact ⟨_, rfl, q⟩
    · exact q.elim⟩
theorem pt_tru' {e : Expr} {t : TE} (h : PE X e t) (he : ∀ whole, isTrue e X.env whole = (do let v ← whole; standAt e.pos; holding [v] (truthy v))) : PT X e (cTru X.K t) :=
  PT_imp (pt_truth (PE_up h) he) fun σ H Q h => ⟨_, h, fun x H1 q => by
    try dsimp only at q
    split at q
    · rename_i e; exact ⟨_, oTru_ok e, q⟩
    · exact q.elim⟩
theorem pt_cmp' {a b : Expr} {op : CmpOp} {r : R2} {pos : Pos} {ta tb : TE} (ho : OpR X (compareOp op) r) (ha : PE X a ta) (hb : PE X b tb) (hm : behindInMarks op b = false) : PT X (.Compare a [op] [b] pos) (cTest (tOp r ta tb)) := by
  refine PT_imp (pt_cmpR (r := fun x y H Q => ∃ Q0, r x y H Q0 ∧ ∀ v H', Q0 v H' → Q v H') (fun pins s σ H x y v u Q I rx ry ⟨Q0, q, k⟩ => thn (ho pins s σ H x y v u Q0 I rx ry q) fun _ _ ⟨v, H', I', r, z⟩ => ⟨v, H', I', r, k v H' z⟩) (PE_up ha) (PE_up hb) hm) fun σ H Q h => ?_
  refine ⟨_, h, fun x H1 q => ⟨_, q, fun y H2 q => ⟨_, q, fun z H3 q => ?_⟩⟩⟩
  try dsimp only at q
  split at q
  · exact ⟨_, rfl, q⟩
  · exact q.elim
theorem opUp {f : Value → Value → Sem Value} {r : R2} (ho : OpR X f r) : OpR X f (fun x y H Q => ∃ Q0 : VK, r x y H Q0 ∧ ∀ v H', Q0 v H' → Q v H') := fun pins s σ H x y v u Q I rx ry ⟨Q0, q, k⟩ => thn (ho pins s σ H x y v u Q0 I rx ry q) fun _ _ ⟨v, H', I', r, z⟩ => ⟨v, H', I', r, k v H' z⟩
theorem pe_chain' {a b c : Expr} {op op' : CmpOp} {r r' : R2} {pos : Pos} {ta tb tc : TE} (ho : OpR X (compareOp op) r) (ho' : OpR X (compareOp op') r') (ha : PE X a ta) (hb : PE X b tb) (hc : PE X c tc) (hm : lastMarks [op, op'] [b, c] = false) :
    PE X (.Compare a [op, op'] [b, c] pos) (cChain r r' ta tb tc) := by
  refine PE_imp (pe_chain (opUp ho) ho' (PE_up ha) (PE_up hb) hc hm) fun σ H Q h => ?_
  refine ⟨_, h, fun x H1 q => ⟨_, q, fun y H2 q => ⟨_, q, fun z H3 q => ?_⟩⟩⟩
  try dsimp only at q
  split at q
  · exact ⟨true, rfl, iteT q⟩
  · exact ⟨false, rfl, iteF q⟩
  · exact q.elim
theorem pt_chain' {a b c : Expr} {op op' : CmpOp} {r r' : R2} {pos : Pos} {ta tb tc : TE} (ho : OpR X (compareOp op) r) (ho' : OpR X (compareOp op') r') (ha : PE X a ta) (hb : PE X b tb) (hc : PE X c tc) (hm : lastMarks [op, op'] [b, c] = false) :
    PT X (.Compare a [op, op'] [b, c] pos) (cTest (cChain r r' ta tb tc)) := by
  refine PT_imp (pt_chain (opUp ho) (opUp ho') (PE_up ha) (PE_up hb) (PE_up hc) hm) fun σ H Q h => ?_
  refine ⟨_, h, fun x H1 q => ⟨_, q, fun y H2 q => ⟨_, q, fun z H3 q => ?_⟩⟩⟩
  try dsimp only at q
  split at q
  · refine ⟨true, rfl, iteT ?_⟩
    refine ⟨_, q, fun w H4 q => ⟨_, q, fun z2 H5 q => ?_⟩⟩
    try dsimp only at q
    split at q
    · exact ⟨_, rfl, q⟩
    · exact q.elim
  · exact ⟨false, rfl, iteF ⟨_, rfl, q⟩⟩
  · exact q.elim
theorem po_part' {e : Expr} {t : TE} (h : PE X e t) : PO X (some e) (cPart t) := by
  have z := po_some (PE_up h)
  refine ⟨fun pins s σ H Q I q => z.run pins s σ H Q I ⟨_, q, fun x H1 q => ?_⟩⟩
  try dsimp only at q
  split at q
  · exact ⟨_, rfl, q⟩
  · exact q.elim
/-- iterables -/
def upA (t : TA) : TA := fun σ H Q => ∃ Q0 : List V → Hp → Prop, t σ H Q0 ∧ ∀ v H', Q0 v H' → Q v H'
theorem PA_up {es : List Expr} {t : TA} (h : PA X es t) : PA X es (upA t) := ⟨fun ps pins s σ H Q I ⟨Q0, q, k⟩ => thn (h.run ps pins s σ H Q0 I q) fun _ _ ⟨v, H', I', r, z⟩ => ⟨v, H', I', r, k v H' z⟩⟩
theorem star1 {a : Expr} {env : Env} (h : notStar a = true) : starEach [a] env = [(false, eval a env)] := star_of h
theorem pi_rng1' {tg a : Expr} {ta : TA} {p pos : Pos} (hg : Gl X "range") (hm : X.mg "range" = none) (h1 : notStar a = true) (ha : PA X [a] ta) : PI X tg (.Call (.Name "range" p) [a] [] pos) (cRng1 ta) :=
  PI_imp (pi_range1 hg hm (PA_up ha) (star1 h1)) fun σ H R h => ⟨_, h, fun vs H1 q => by
    try dsimp only at q
    split at q
    · exact ⟨_, rfl, q.1.1, q.1.2, q.2⟩
    · exact q.elim⟩
theorem pi_rng2' {tg a b : Expr} {ta : TA} {p pos : Pos} (hg : Gl X "range") (hm : X.mg "range" = none) (h1 : notStar a = true) (h2 : notStar b = true) (ha : PA X [a, b] ta) : PI X tg (.Call (.Name "range" p) [a, b] [] pos) (cRng2 ta) :=
  PI_imp (pi_range2 hg hm (PA_up ha) ((star_of h1).trans (by rw [star1 h2])) (star1 h2)) fun σ H R h => ⟨_, h, fun vs H1 q => by
    try dsimp only at q
    split at q
    · exact ⟨_, _, rfl, q.1, q.2⟩
    · exact q.elim⟩
theorem pi_rng3' {tg a b c : Expr} {ta : TA} {p pos : Pos} (hg : Gl X "range") (hm : X.mg "range" = none) (h1 : notStar a = true) (h2 : notStar b = true) (h3 : notStar c = true) (ha : PA X [a, b, c] ta) : PI X tg (.Call (.Name "range" p) [a, b, c] [] pos) (cRng3 ta) :=
  PI_imp (pi_range3 hg hm (PA_up ha) (star_of h1) (star_all (by rw [List.all_cons, List.all_cons, h2, h3]; rfl))) fun σ H R h => ⟨_, h, fun vs H1 q => by
    try dsimp only at q
    split at q
    · obtain ⟨n, c, q⟩ := q; exact ⟨_, _, _, n, rfl, c, q⟩
    · exact q.elim⟩
theorem pi_enum' {a : Expr} {elts : List Expr} {kk : Nat} {ta : TA} {p pos tpos : Pos} (hg : Gl X "enumerate") (hm : X.mg "enumerate" = none) (h1 : notStar a = true) (ha : PA X [a] ta) : PI X (.Tuple elts kk tpos) (.Call (.Name "enumerate" p) [a] [] pos) (cEnum X.K ta) :=
  PI_imp (pi_enum hg hm (PA_up ha) (star1 h1)) fun σ H R h => ⟨_, h, fun vs H1 q => by
    try dsimp only at q
    split at q
    · split at q
      · rename_i e; exact ⟨_, _, rfl, look_lst e, q⟩
      · exact q.elim
    · exact q.elim⟩
theorem pi_zip' {a b : Expr} {elts : List Expr} {kk : Nat} {ta : TA} {p pos tpos : Pos} (hg : Gl X "zip") (hm : X.mg "zip" = none) (h1 : notStar a = true) (h2 : notStar b = true) (ha : PA X [a, b] ta) : PI X (.Tuple elts kk tpos) (.Call (.Name "zip" p) [a, b] [] pos) (cZip X.K ta) :=
  PI_imp (pi_zip hg hm (PA_up ha) (star_of h1) (star_all (by rw [List.all_cons, h2]; rfl))) fun σ H R h => ⟨_, h, fun vs H1 q => by
    try dsimp only at q
    split at q
    · split at q
      · rename_i e f; exact ⟨_, _, _, _, rfl, look_lst e, look_lst f, q⟩
      · exact q.elim
    · exact q.elim⟩
theorem pi_rev' {tg a : Expr} {ta : TA} {p pos : Pos} (hg : Gl X "reversed") (hm : X.mg "reversed" = none) (h1 : notStar a = true) (ha : PA X [a] ta) : PI X tg (.Call (.Name "reversed" p) [a] [] pos) (cRev X.K ta) :=
  PI_imp (pi_reversed hg hm (PA_up ha) (star1 h1)) fun σ H R h => ⟨_, h, fun vs H1 q => by
    try dsimp only at q
    split at q
    · split at q
      · rename_i e; exact ⟨_, _, rfl, look_lst e, q⟩
      · exact q.elim
    · exact q.elim⟩
theorem pi_view' {tg e : Expr} {td : TE} {apos cpos : Pos} {m : Str} {k : Nat} (he : PE X e td) (hb : baseOk e = true) (hl : (apos.endLine == cpos.line) = true) (hk : (m = "keys" ∧ k = 0) ∨ (m = "values" ∧ k = 1) ∨ (m = "items" ∧ k = 2 ∧ ∃ elts kk tpos, tg = .Tuple elts kk tpos)) :
    PI X tg (.Call (.Attribute e m apos) [] [] cpos) (cDview k td) := by
  rcases hk with ⟨rfl, rfl⟩ | ⟨rfl, rfl⟩ | ⟨rfl, rfl, elts, kk, tpos, rfl⟩
  · refine PI_imp (pi_keysM (PE_up he) (base_of hb) hl) fun σ H R h => ⟨_, h, fun x H1 q => ?_⟩
    try dsimp only at q
    split at q
    · split at q
      · rename_i e; exact ⟨_, _, _, rfl, e, q⟩
      · exact q.elim
    · exact q.elim
  · refine PI_imp (pi_values (PE_up he) (base_of hb) hl) fun σ H R h => ⟨_, h, fun x H1 q => ?_⟩
    try dsimp only at q
    split at q
    · split at q
      · rename_i e; exact ⟨_, _, _, rfl, e, q⟩
      · exact q.elim
    · exact q.elim
  · refine PI_imp (pi_items (PE_up he) (base_of hb) hl) fun σ H R h => ⟨_, h, fun x H1 q => ?_⟩
    try dsimp only at q
    split at q
    · split at q
      · rename_i e; exact ⟨_, _, _, rfl, e, q⟩
      · exact q.elim
    · exact q.elim
end
end WR

set_option Elab.async false
set_option linter.all false
set_option maxRecDepth 100000
set_option maxHeartbeats 4000000
namespace WR
open PySem PySem.Spec PyProof.Rows L2

/-! ## 17. targets -/
abbrev wNone : WX := fun _ _ _ _ => False
def cTupG (K : PySem.W.Frag) (n : Nat) (t : TGs) : TG := fun v σ H Q => match v with
  | .ref a => (match look K H a with
    | some (.tup xs) => xs.length = n ∧ t xs σ H Q
    | _ => False)
  | _ => False
/-- o[i] = v -/
def oSet : TSet := fun o i v H Q => match o with
  | .ref p => (match H p with
    | some (.lst xs) => (match i with
      | .int k => (match ixN xs.length k with
        | some j => Q (upd H p (.lst (xs.set j v)))
        | none => False)
      | _ => False)
    | some (.dK kvs) => (match keyOf i with
      | some k => kvs.length < sizeLine ∧ Q (upd H p (.dK (putK kvs k v)))
      | none => ∃ H', DPut H p i v H' ∧ Q H')
    | some (.dT kvs) => ∃ H', DPut H p i v H' ∧ Q H'
    | _ => False)
  | _ => False
def notSlice : Expr → Bool
  | .Slice _ _ _ _ => false
  | _ => true
mutual
def tG (K : PySem.W.Frag) (f : Expr → OE) (N : List Str) (sc : Scope) (okc : Str → Bool) : Nat → Expr → Option (WX → TG)
  | 0, _ => none
  | n + 1, .Name x _ => if plainName x = true then (match sc.names.lookup x with
      | some .local => (ix? N x).map fun i _ => gName i
      | some .cell => if okc x = true then (ix? N x).map fun i _ => gName i else none
      | _ => none) else none
  | n + 1, .Tuple es _ _ => if es.all notStar = true then (tGs K f N sc okc n es).map fun t W => cTupG K es.length (t W) else none
  | n + 1, .Subscript o i _ => if notSlice i = true then (match f o, f i with
      | some to, some ti => some fun W => gSub (to W) (ti W) oSet
      | _, _ => none) else none
  | _, _ => none
def tGs (K : PySem.W.Frag) (f : Expr → OE) (N : List Str) (sc : Scope) (okc : Str → Bool) : Nat → List Expr → Option (WX → TGs)
  | 0, _ => none
  | _ + 1, [] => some fun _ => gNil
  | n + 1, e :: es => if notStar e = true then (match tG K f N sc okc n e, tGs K f N sc okc n es with
      | some t, some u => some fun W => gCons (t W) (u W)
      | _, _ => none) else none
end
section
variable {X : Cx}
theorem r_set (hu : X.A.units + 1 < cLine) : PSet X oSet := by
  intro pins s σ H o i v ov iv u Q I ro ri rv h
  unfold oSet at h
  split at h
  · rename_i p
    have dput : ∀ H', DPut H p i v H' → Q H' → wpAny (model X.prog X.w) X.A (setItem ov iv u) (fun _ s' => ∃ H', Inv X pins σ H' s' ∧ Q H') X.xe s := fun H' g q => by
      cases ro
      exact d_setItem hu I g ri rv fun s' I' => ⟨H', I', q⟩
    split at h
    · rename_i xs e
      split at h
      · split at h
        · rename_i j ej
          exact set_list pins s σ H _ _ v ov iv u Q I ro ri rv ⟨_, _, _, j, rfl, rfl, e, ej, h⟩
        · exact h.elim
      · exact h.elim
    · rename_i kvs e
      split at h
      · rename_i k ek
        refine dput _ ?_ h.2
        rw [keyOf_kV ek]
        exact DPut.k e h.1
      · obtain ⟨H', g, q⟩ := h
        exact dput H' g q
    · obtain ⟨H', g, q⟩ := h
      exact dput H' g q
    · exact h.elim
  · exact h.elim
theorem assign_star {es : List Expr} {e : Expr} {env : Env} (h : notStar e = true) : assignEach (e :: es) env = (false, assign e env) :: assignEach es env := by
  cases e <;> first | rfl | exact absurd h Bool.false_ne_true
theorem assign_len : ∀ {es : List Expr} {env : Env}, (assignEach es env).length = es.length
  | [], _ => rfl
  | e :: es, env => by
    cases e <;> exact congrArg Nat.succ assign_len
theorem assign_none : ∀ {es : List Expr} {env : Env}, es.all notStar = true → (assignEach es env).findIdx? (·.1) = none
  | [], _, _ => rfl
  | e :: es, env, h => by
    rw [List.all_cons, Bool.and_eq_true] at h
    rw [assign_star h.1, List.findIdx?_cons]
    simp [assign_none h.2]
/-- expressions are read rightly at X -/
def SE (X : Cx) (W : WX) (f : Expr → OE) : Prop := ∀ e t, f e = some t → PE X e (t W)
def ST (X : Cx) (W : WX) (f : Expr → Option (WX → TT)) : Prop := ∀ e t, f e = some t → PT X e (t W)
theorem tArgs_ok {f : Expr → OE} {W : WX} (h : SE X W f) : ∀ {es : List Expr} {t : WX → TA}, tArgs f es = some t → PA X es (t W) ∧ es.all notStar = true ∧ (es = [] → t W = tNil)
  | [], t, e => by cases e; exact ⟨pa_nil, rfl, fun _ => rfl⟩
  | e :: es, t, q => by
    unfold tArgs at q
    split at q
    · rename_i hs
      split at q
      · rename_i te tr e1 e2
        cases q
        obtain ⟨p1, p2, p3⟩ := tArgs_ok h e2
        exact ⟨pa_cons (h _ _ e1) p1 (star_of hs), by rw [List.all_cons, hs, p2]; rfl, fun z => nomatch z⟩
      · cases q
    · cases q
theorem tKws_ok {f : Expr → OE} {W : WX} (h : SE X W f) : ∀ {es : List Keyword} {t : WX → TA}, tKws f es = some t → PK X es (t W) ∧ (es = [] → t W = tNil)
  | [], t, e => by cases e; exact ⟨pk_nil, fun _ => rfl⟩
  | ⟨nm, v, p⟩ :: es, t, q => by
    unfold tKws at q
    split at q
    · rename_i te tr e1 e2
      cases q
      obtain ⟨p1, p2⟩ := tKws_ok h e2
      exact ⟨pk_cons (h _ _ e1) p1, fun z => nomatch z⟩
    · cases q
theorem tBool_ok {f : Expr → OE} {W : WX} (h : SE X W f) (b : Bool) {pos : Pos} : ∀ {es : List Expr} {t : WX → TE}, tBool X.K f b es = some t → PE X (.BoolOp (if b then .And else .Or) es pos) (t W)
  | [], t, e => by cases e
  | [e], t, q => pe_one (h _ _ q)
  | e :: e2 :: es, t, q => by
    unfold tBool at q
    split at q
    · rename_i ta tb e1 e2
      cases q
      have hb := tBool_ok h b (pos := pos) e2
      cases b with
      | true => exact pe_and' (h _ _ e1) hb
      | false => exact pe_or' (h _ _ e1) hb
    · cases q
theorem tBoolT_ok {f : Expr → Option (WX → TT)} {W : WX} (h : ST X W f) (b : Bool) {pos : Pos} : ∀ {es : List Expr} {t : WX → TT}, tBoolT f b es = some t → PW X (.BoolOp (if b then .And else .Or) es pos) (t W)
  | [], t, e => by cases e
  | [e], t, q => by
    cases b with
    | true => exact pw_and1 (h _ _ q)
    | false => exact pw_or1 (h _ _ q)
  | e :: e2 :: es, t, q => by
    unfold tBoolT at q
    split at q
    · rename_i ta tb e1 e2
      cases q
      have hb := tBoolT_ok h b (pos := pos) e2
      cases b with
      | true => exact pw_and (h _ _ e1) hb
      | false => exact pw_or (h _ _ e1) hb
    · cases q
theorem tPairs_ok {f : Expr → OE} {W : WX} (h : SE X W f) {pos : Pos} : ∀ {ks : List (Option Expr)} {vs : List Expr} {trs : List (WX → TE × TE)}, tPairsL f ks vs = some trs → PPs X pos ks vs (trs.map fun t => t W) ∧ ks.all (·.isSome) = true ∧ ks.length = vs.length
  | [], [], trs, q => by cases q; exact ⟨pps_nil, rfl, rfl⟩
  | some k :: ks, v :: vs, trs, q => by
    unfold tPairsL at q
    split at q
    · rename_i tk tv r e1 e2 e3
      cases q
      obtain ⟨p1, p2, p3⟩ := tPairs_ok h (pos := pos) e3
      exact ⟨pps_cons (h _ _ e1) (h _ _ e2) p1, by rw [List.all_cons, p2]; rfl, by rw [List.length_cons, List.length_cons, p3]⟩
    · cases q
  | none :: _, _, _, q => by simp [tPairsL] at q
  | some _ :: _, [], _, q => by simp [tPairsL] at q
  | [], _ :: _, _, q => by simp [tPairsL] at q
theorem tPartO_ok {f : Expr → OE} {W : WX} (h : SE X W f) : ∀ {o : Option Expr} {t : WX → TO}, tPartO f o = some t → PO X o (t W)
  | none, t, q => by cases q; exact po_none
  | some e, t, q => by
    simp only [tPartO] at q
    split at q
    · rename_i te e1; cases q; exact po_part' (h _ _ e1)
    · cases q
end
section
variable {g : G} {lev : Nat} {X : Cx} {N : List Str} {sc : Scope} {W : WX} {f : Expr → OE} {okc : Str → Bool}
theorem pg_nm (c : COk g lev X N sc W) {x : Str} {pos : Pos} {k : NameKind} {i : Nat} (hk : sc.names.lookup x = some k) (hkk : k = .local ∨ k = .cell) (hf : X.fn x = true ∨ k = .local) (hi : ix? N x = some i) : PG X (.Name x pos) (gName i) := by
  refine pg_name c.nd (by rw [c.hN]; exact ix_get hi) ?_ ?_
  · unfold L2.Loc
    rw [c.hsc, hk]
    rcases hkk with rfl | rfl <;> simp
  · rw [c.hsc, hk]
    rcases hf with z | rfl
    · exact .inl z
    · exact .inr rfl
mutual
theorem tG_ok (c : COk g lev X N sc W) (h : SE X W f) (ho : ∀ x, okc x = true → X.fn x = true) : ∀ (n : Nat) (e : Expr) (t : WX → TG), tG g.K f N sc okc n e = some t → PG X e (t W)
  | 0, e, t, q => by simp [tG] at q
  | n + 1, e, t, q => by
    cases e with
    | Name x pos =>
      simp only [tG] at q
      split at q
      · split at q
        · rename_i hk
          obtain ⟨i, hi, rfl⟩ := Option.map_eq_some_iff.mp q
          exact pg_nm c hk (.inl rfl) (.inr rfl) hi
        · rename_i hk
          split at q
          · rename_i ok
            obtain ⟨i, hi, rfl⟩ := Option.map_eq_some_iff.mp q
            exact pg_nm c hk (.inr rfl) (.inl (ho _ ok)) hi
          · cases q
        · cases q
      · cases q
    | Tuple es kk pos =>
      simp only [tG] at q
      split at q
      · rename_i hs
        obtain ⟨u, hu, rfl⟩ := Option.map_eq_some_iff.mp q
        have z := tGs_ok c h ho n es _ hu
        refine ⟨fun pins s σ H v w Q I r hw => (pg_tup c.calm z assign_len (assign_none hs)).run pins s σ H v w Q I r ?_⟩
        simp only [cTupG] at hw
        split at hw
        · split at hw
          · rename_i e; exact ⟨_, _, rfl, by rw [c.hK]; exact look_tup e, hw.1, hw.2⟩
          · exact hw.elim
        · exact hw.elim
      · cases q
    | Subscript o i pos =>
      simp only [tG] at q
      split at q
      · rename_i hs
        split at q
        · rename_i e1 e2
          cases q
          refine pg_sub (h _ _ e1) (h _ _ e2) (r_set c.hu1) ?_
          intro v
          cases i <;> first | rfl | exact absurd hs Bool.false_ne_true
        · cases q
      · cases q
    | _ => simp [tG] at q
theorem tGs_ok (c : COk g lev X N sc W) (h : SE X W f) (ho : ∀ x, okc x = true → X.fn x = true) : ∀ (n : Nat) (es : List Expr) (t : WX → TGs), tGs g.K f N sc okc n es = some t → PGs X es (t W)
  | 0, e, t, q => by simp [tGs] at q
  | n + 1, [], t, q => by
    simp only [tGs] at q
    cases q
    exact pgs_nil
  | n + 1, e :: es, t, q => by
    simp only [tGs] at q
    split at q
    · rename_i hs
      split at q
      · rename_i e1 e2
        cases q
        exact pgs_cons (tG_ok c h ho n e _ e1) (tGs_ok c h ho n es _ e2) (by rw [assign_star hs]; rfl)
      · cases q
    · cases q
end
end
end WR

set_option Elab.async false
set_option linter.all false
set_option maxRecDepth 100000
set_option maxHeartbeats 4000000
namespace WR
open PySem PySem.Spec PyProof.Rows L2

/-! ## 18. expressions, tests, comprehensions: the whole translation -/
def isTup : Expr → Bool
  | .Tuple _ _ _ => true
  | _ => false
theorem isTup_ex {e : Expr} (h : isTup e = true) : ∃ a b c, e = .Tuple a b c := by
  cases e <;> first | exact ⟨_, _, _, rfl⟩ | exact absurd h Bool.false_ne_true
def tI1 (g : G) (f : Expr → OE) (sc : Scope) (tg : Expr) : Expr → Option (WX → TI)
  | .Call (.Name x _) es [] _ =>
    if sc.names.lookup x = some .globalImplicit ∧ x ∈ g.blt then
      (if x = "range" then (match es, tArgs f es with
        | [_], some t => some fun W => cRng1 (t W)
        | [_, _], some t => some fun W => cRng2 (t W)
        | [_, _, _], some t => some fun W => cRng3 (t W)
        | _, _ => none)
      else if x = "enumerate" ∧ isTup tg = true then (match es, tArgs f es with
        | [_], some t => some fun W => cEnum g.K (t W)
        | _, _ => none)
      else if x = "zip" ∧ isTup tg = true then (match es, tArgs f es with
        | [_, _], some t => some fun W => cZip g.K (t W)
        | _, _ => none)
      else if x = "reversed" then (match es, tArgs f es with
        | [_], some t => some fun W => cRev g.K (t W)
        | _, _ => none)
      else none)
    else none
  | .Call (.Attribute e m apos) [] [] cpos =>
    if baseOk e = true ∧ (apos.endLine == cpos.line) = true then (match f e with
      | some t => if m = "keys" then some fun W => cDview 0 (frzE (t W)) else if m = "values" then some fun W => cDview 1 (frzE (t W)) else if m = "items" ∧ isTup tg = true then some fun W => cDview 2 (frzE (t W)) else none
      | none => none)
    else none
  | _ => none
def tI (g : G) (f : Expr → OE) (sc : Scope) (tg iter : Expr) : Option (WX → TI) :=
  if notSet iter = true then (match tI1 g f sc tg iter with
    | some t => some t
    | none => (f iter).map fun t W => cIter g.K (frzE (t W)))
  else none
def ownOf (N : List Str) (scope : Scope) : List (Str × Nat) := scope.names.filterMap fun y => match y.2 with
  | .local | .cell => (ix? N y.1).map fun i => (y.1, i)
  | _ => none
def tIfs (f : Expr → Option (WX → TT)) : List Expr → Option (WX → TT)
  | [] => some fun _ => tYes
  | [e] => f e
  | _ => none
def okBlk (scope : Scope) (x : Str) : Bool := scope.names.lookup x == some .cell
/-- a comprehension, the dict that it may walk locked -/
def cLcL (wi : TI) (g : TG) (tt : TT) (te : TE) (vs : List Nat) : TE := fun σ H Q => cLc wi g tt te vs σ H Q ∨ tLockE (cLc wi g tt te vs) σ H Q
def cDcL (wi : TI) (g : TG) (tt : TT) (tk tv : TE) (vs : List Nat) : TE := fun σ H Q => cDc wi g tt tk tv vs σ H Q ∨ tLockE (cDc wi g tt tk tv vs) σ H Q
def tArts (f : Expr → OE) : List Expr → Option (List (WX → TE))
  | [] => some []
  | e :: es => match f e, tArts f es with
      | some te, some t => some (te :: t)
      | _, _ => none
def plainTest : Expr → Bool
  | .Name _ _ | .Call _ _ _ _ | .Attribute _ _ _ | .Subscript _ _ _ | .Constant _ _ _ | .BinOp _ _ _ _ => true
  | _ => false
mutual
def tE (g : G) : Nat → List Str → Scope → Expr → OE
  | 0, _, _, _ => none
  | n + 1, N, sc, e => match e with
    | .Constant c _ _ => (match c with
      | .int i => some fun _ => tC (.int i)
      | .bool b => some fun _ => tC (.bl b)
      | .none => some fun _ => tC .non
      | .str s => some fun _ => tC (.str s)
      | _ => none)
    | .Name x _ => (tName g N sc x).map fun t _ => t
    | .BinOp a op b _ => (match opR g.K op, tE g n N sc a, tE g n N sc b with
      | some r, some ta, some tb => some fun W => tOp r (ta W) (tb W)
      | _, _, _ => none)
    | .Compare a [op] [b] _ => if notSet b = true then (match cmpR g op, tE g n N sc a, tE g n N sc b with
      | some r, some ta, some tb => some fun W => tOp r (ta W) (tb W)
      | _, _, _ => none) else none
    | .Compare a [op, op'] [b, c] _ => if notSet c = true then (match cmpR g op, cmpR g op', tE g n N sc a, tE g n N sc b, tE g n N sc c with
      | some r, some r', some ta, some tb, some tc => some fun W => cChain r r' (ta W) (tb W) (tc W)
      | _, _, _, _, _ => none) else none
    | .BoolOp .And es _ => tBool g.K (tE g n N sc) true es
    | .BoolOp .Or es _ => tBool g.K (tE g n N sc) false es
    | .UnaryOp .Not a _ => (tE g n N sc a).map fun t W => cNot g.K (t W)
    | .UnaryOp .USub a _ => (tE g n N sc a).map fun t W => cUn (t W)
    | .IfExp c a b _ => (match tT g n N sc c, tE g n N sc a, tE g n N sc b with
      | some tc, some ta, some tb => some fun W => tIf (tc W) (ta W) (tb W)
      | _, _, _ => none)
    | .Call (.Name x _) es kws _ => tCallName g (tE g n N sc) sc x es kws
    | .Call (.Attribute o m apos) es kws pos => if baseOk o = true ∧ (apos.endLine == pos.line) = true ∧ es.length + kws.length < 29 then
        (match kwNames kws, tE g n N sc o, tArgs (tE g n N sc) es, tKws (tE g n N sc) kws with
        | some ks, some ta, some t, some tk => some fun W => cMeth g.K m es.length ks.length (g.mts.filter fun i => decide (i.name = m) && decide (i.n = es.length) && decide (i.ks = ks)) ((bms g.K).filter fun b => decide (b.name = m)) (ta W) (t W) (tk W) W
        | _, _, _, _ => none) else none
    | .List es _ => (tArgs (tE g n N sc) es).map fun t W => tLst (t W)
    | .Tuple es _ _ => (tArgs (tE g n N sc) es).map fun t W => tTup (t W)
    | .Dict ks vs _ => tDict (tE g n N sc) ks vs
    | .Subscript a (.Slice lo hi none _) _ => (match tE g n N sc a, tPartO (tE g n N sc) lo, tPartO (tE g n N sc) hi with
      | some ta, some tl, some th => some fun W => tSl (oSl g.K) (ta W) (tl W) (th W)
      | _, _, _ => none)
    | .Subscript a b _ => if notSlice b = true then (match tE g n N sc a, tE g n N sc b with
      | some ta, some tb => some fun W => tOp (oIx g.K) (ta W) (tb W)
      | _, _ => none) else none
    | .Attribute o a _ => if baseOk o = true then (match g.ats.lookup a, tE g n N sc o with
      | some cs, some to => some fun W => cAttr cs a (to W)
      | _, _ => none) else none
    | .ListComp elt [⟨tg, iter, ifs, 0⟩] scope _ =>
      if blkC N sc scope (ownOf N scope) = true then
        (match tI g (tE g n N sc) sc tg iter, tG g.K (tE g n N (relS scope sc)) N (relS scope sc) (okBlk scope) 12 tg, tIfs (tT g n N (relS scope sc)) ifs, tE g n N (relS scope sc) elt with
        | some wi, some gt, some tt, some te => some fun W => cLcL (wi W) (gt wNone) (tt wNone) (te wNone) ((ownOf N scope).map (·.2))
        | _, _, _, _ => none)
      else none
    | .DictComp kx vx [⟨tg, iter, ifs, 0⟩] scope _ =>
      if blkC N sc scope (ownOf N scope) = true then
        (match tI g (tE g n N sc) sc tg iter, tG g.K (tE g n N (relS scope sc)) N (relS scope sc) (okBlk scope) 12 tg, tIfs (tT g n N (relS scope sc)) ifs, tE g n N (relS scope sc) kx, tE g n N (relS scope sc) vx with
        | some wi, some gt, some tt, some tk, some tv => some fun W => cDcL (wi W) (gt wNone) (tt wNone) (tk wNone) (tv wNone) ((ownOf N scope).map (·.2))
        | _, _, _, _, _ => none)
      else none
    | .FormattedValue e cv none _ => if cv = -1 then (tE g n N sc e).map fun t W => cFmt (t W) else none
    | .JoinedStr (e1 :: e2 :: es) _ => (tArts (tE g n N sc) (e1 :: e2 :: es)).map fun ts W σ H Q => cJs (ts.map fun t => t W) Str.empty σ H fun out H1 => Q (.str out) H1
    | .JoinedStr [e1] _ => tE g n N sc e1
    | _ => none
def tT (g : G) : Nat → List Str → Scope → Expr → Option (WX → TT)
  | 0, _, _, _ => none
  | n + 1, N, sc, e => match e with
    | .Compare a [op] [b] _ => if notSet b = true then (match cmpR g op, tE g n N sc a, tE g n N sc b with
      | some r, some ta, some tb => some fun W => cTest (tOp r (ta W) (tb W))
      | _, _, _ => none) else none
    | .Compare a [op, op'] [b, c] _ => if notSet c = true then (match cmpR g op, cmpR g op', tE g n N sc a, tE g n N sc b, tE g n N sc c with
      | some r, some r', some ta, some tb, some tc => some fun W => cTest (cChain r r' (ta W) (tb W) (tc W))
      | _, _, _, _, _ => none) else none
    | .BoolOp .And es _ => tBoolT (tT g n N sc) true es
    | .BoolOp .Or es _ => tBoolT (tT g n N sc) false es
    | .UnaryOp .Not a _ => (tT g n N sc a).map fun t W => tNot (t W)
    | e => if plainTest e = true then (tE g n N sc e).map fun t W => cTru g.K (t W) else none
end
section
variable {g : G} {lev : Nat} {X : Cx} {N : List Str} {sc : Scope} {W : WX} {f : Expr → OE}
theorem tI1_ok (c : COk g lev X N sc W) (h : SE X W f) {tg iter : Expr} {t : WX → TI} (q : tI1 g f sc tg iter = some t) : PI X tg iter (t W) := by
  unfold tI1 at q
  split at q
  · rename_i x p es pos
    split at q
    · rename_i hx
      have hg : Gl X x := by unfold Gl Env.kindOf; rw [c.hsc]; exact hx.1
      have hm := c.gok.blt x hx.2
      split at q
      · rename_i e
        subst e
        split at q
        · rename_i e1; cases q
          obtain ⟨p1, p2, p3⟩ := tArgs_ok h e1
          simp only [List.all_cons, List.all_nil, Bool.and_true] at p2
          exact pi_rng1' hg hm p2 p1
        · rename_i e1; cases q
          obtain ⟨p1, p2, p3⟩ := tArgs_ok h e1
          simp only [List.all_cons, List.all_nil, Bool.and_true, Bool.and_eq_true] at p2
          exact pi_rng2' hg hm p2.1 p2.2 p1
        · rename_i e1; cases q
          obtain ⟨p1, p2, p3⟩ := tArgs_ok h e1
          simp only [List.all_cons, List.all_nil, Bool.and_true, Bool.and_eq_true] at p2
          exact pi_rng3' hg hm p2.1 p2.2.1 p2.2.2 p1
        · cases q
      · split at q
        · rename_i e
          obtain ⟨rfl, ht⟩ := e
          obtain ⟨a, b, d, rfl⟩ := isTup_ex ht
          split at q
          · rename_i e1; cases q
            obtain ⟨p1, p2, p3⟩ := tArgs_ok h e1
            simp only [List.all_cons, List.all_nil, Bool.and_true] at p2
            rw [← c.hK]
            exact pi_enum' hg hm p2 p1
          · cases q
        · split at q
          · rename_i e
            obtain ⟨rfl, ht⟩ := e
            obtain ⟨a, b, d, rfl⟩ := isTup_ex ht
            split at q
            · rename_i e1; cases q
              obtain ⟨p1, p2, p3⟩ := tArgs_ok h e1
              simp only [List.all_cons, List.all_nil, Bool.and_true, Bool.and_eq_true] at p2
              rw [← c.hK]
              exact pi_zip' hg hm p2.1 p2.2 p1
            · cases q
          · split at q
            · rename_i e
              subst e
              split at q
              · rename_i e1; cases q
                obtain ⟨p1, p2, p3⟩ := tArgs_ok h e1
                simp only [List.all_cons, List.all_nil, Bool.and_true] at p2
                rw [← c.hK]
                exact pi_rev' hg hm p2 p1
              · cases q
            · cases q
    · cases q
  · split at q
    · rename_i hb
      split at q
      · rename_i e1
        split at q
        · rename_i em; cases q; exact pi_view' (pe_frz (h _ _ e1)) hb.1 hb.2 (.inl ⟨em, rfl⟩)
        · split at q
          · rename_i em; cases q; exact pi_view' (pe_frz (h _ _ e1)) hb.1 hb.2 (.inr (.inl ⟨em, rfl⟩))
          · split at q
            · rename_i em; cases q; exact pi_view' (pe_frz (h _ _ e1)) hb.1 hb.2 (.inr (.inr ⟨em.1, rfl, isTup_ex em.2⟩))
            · cases q
      · cases q
    · cases q
  · cases q
theorem notSet_f {iter : Expr} {env : Env} {x : Value} (h : notSet iter = true) : foldedSetIterable iter env x = pure x := by
  cases iter <;> first | rfl | exact absurd h Bool.false_ne_true
theorem tI_ok (c : COk g lev X N sc W) (h : SE X W f) {tg iter : Expr} {t : WX → TI} (q : tI g f sc tg iter = some t) : PI X tg iter (t W) ∧ notSet iter = true := by
  unfold tI at q
  split at q
  · rename_i hs
    refine ⟨?_, hs⟩
    split at q
    · rename_i e; cases q; exact tI1_ok c h e
    · obtain ⟨u, hu, rfl⟩ := Option.map_eq_some_iff.mp q
      rw [← c.hK]
      exact pi_dyn (pe_frz (h _ _ hu))
  · cases q
theorem tIfs_ok {f : Expr → Option (WX → TT)} (h : ST X W f) : ∀ {es : List Expr} {t : WX → TT}, tIfs f es = some t → PTs X es (t W)
  | [], t, q => by cases q; exact pts_nil
  | [e], t, q => pts_one (h _ _ q)
  | _ :: _ :: _, t, q => by simp [tIfs] at q
theorem cok_blk (c : COk g lev X N sc W) {scope : Scope} {s : Shared} {H : Hp} {C : Addr} {cl : List (Str × Addr)} {fp : List Addr} : COk g lev (X.blk s H scope (compEnvC scope cl C X.env) fp) N (relS scope sc) wNone where
  gok := c.gok
  hK := c.hK
  hN := c.hN
  hsc := by
    have : (compEnvC scope cl C X.env).scope = relS scope X.env.scope := rfl
    exact this.trans (by rw [c.hsc])
  nd := c.nd
  calm := c.calm
  tk := takes0
  room := c.room
theorem opR_ok (c : COk g lev X N sc W) {op : Operator} {r : R2} (h : opR g.K op = some r) : OpR X (binaryOp op) r := by
  unfold opR at h
  rw [← c.hK] at h
  split at h <;> cases h
  · exact r_add
  · exact r_sub
  · exact r_mul
  · exact r_fdiv
  · exact r_mod
  · exact r_pow
  · exact r_shl
theorem cmpR_ok (c : COk g lev X N sc W) {op : CmpOp} {r : R2} (h : cmpR g op = some r) : OpR X (compareOp op) r := by
  have hu := c.hu
  have hu5 : X.A.units + 65 < cLine := by have := c.room.un; omega
  unfold cmpR at h
  split at h <;> cases h
  · exact r_lt
  · exact r_le
  · exact r_gt
  · exact r_ge
  · exact r_eqG c (by rw [← c.hK]; exact r_eq hu)
  · exact r_neG c (by rw [← c.hK]; exact r_ne hu)
  · rw [← c.hK]; exact r_in hu5
  · rw [← c.hK]; exact r_notin hu5
  · exact r_is
  · exact r_isnot
theorem notSlice_ix {b : Expr} (h : notSlice b = true) : PlainIx b := fun o i => by
  cases b <;> first | rfl | exact absurd h Bool.false_ne_true
end
end WR

set_option Elab.async false
set_option linter.all false
set_option maxRecDepth 100000
set_option maxHeartbeats 4000000
namespace WR
open PySem PySem.Spec PyProof.Rows L2
section
variable {g : G} {lev : Nat} {X : Cx} {N : List Str} {sc : Scope} {W : WX} {f : Expr → OE}
theorem lpd_W {J : It} {g : TG} {tt : TT} {tk tv : TE} {vs : List Nat} {σ : St} {D : Addr} {Q : VK} {H1 : Hp} (h : ∃ n, lpd J g tt tk tv vs σ D Q n 0 H1) :
    ∃ W : Nat → Nat → Hp → Prop, (∃ m, W 0 m H1) ∧ ∀ i m H, W i m H →
      (J.stop i H ∧ Q (.ref D) H) ∨ (J.go i H ∧ ∃ Nx : Hp → Prop, (∀ H', Nx H' → ∃ m', m' < m ∧ W (i + 1) m' H') ∧ ∀ x H', J.yld i H x H' → g x (wipe σ vs) H' fun σ2 H2 => wipe σ2 vs = wipe σ vs ∧ tt σ2 H2 fun b H3 =>
        if b = true then tk σ2 H3 fun y H4 => tv σ2 H4 fun z H5 => ∃ kvs k, y = kV k ∧ H5 D = some (.dK kvs) ∧ kvs.length < sizeLine ∧ Nx (upd H5 D (.dK (putK kvs k z))) else Nx H3) := by
  obtain ⟨n, h⟩ := h
  refine ⟨fun i m H => lpd J g tt tk tv vs σ D Q m i H, ⟨n, h⟩, fun i m H w => ?_⟩
  cases m with
  | zero => exact .inl w
  | succ m =>
    rcases w with w | ⟨go, w⟩
    · exact .inl w
    · exact .inr ⟨go, lpd J g tt tk tv vs σ D Q m (i + 1), fun H' q => ⟨m, Nat.lt_succ_self _, q⟩, w⟩
theorem pe_fmt' {e : Expr} {te : TE} {pos : Pos} (he : PE X e te) : PE X (.FormattedValue e (-1) none pos) (cFmt te) :=
  PE_imp (pe_fmt (PE_up he)) fun σ H Q h => ⟨_, h, fun x H1 q => by
    try dsimp only at q
    split at q
    · exact .inl ⟨_, rfl, q⟩
    · exact .inr ⟨_, rfl, q⟩
    · exact q.elim⟩
theorem tArts_ok {f : Expr → OE} (h : SE X W f) : ∀ {es : List Expr} {ts : List (WX → TE)}, tArts f es = some ts → PJ X es (ts.map fun t => upE (t W))
  | [], ts, e => by cases e; exact .nil
  | e :: es, ts, q => by
    unfold tArts at q
    split at q
    · rename_i te tr e1 e2
      cases q
      exact .cons (PE_up (h _ _ e1)) (tArts_ok h e2)
    · cases q
theorem cJs_up {Wt : WX} : ∀ {ts : List (WX → TE)} {acc : Str} {σ : St} {H : Hp} {Q : Str → Hp → Prop}, cJs (ts.map fun t => t Wt) acc σ H Q → tJs (ts.map fun t => upE (t Wt)) acc σ H Q
  | [], acc, σ, H, Q, h => h
  | t :: ts, acc, σ, H, Q, h => ⟨_, h, fun x H1 q => by
    try dsimp only at q
    split at q
    · exact ⟨_, rfl, q.1, cJs_up q.2⟩
    · exact q.elim⟩
theorem pe_joined' {e1 e2 : Expr} {es : List Expr} {pos : Pos} {ts : List (WX → TE)} (h : PJ X (e1 :: e2 :: es) (ts.map fun t => upE (t W))) : PE X (.JoinedStr (e1 :: e2 :: es) pos) (fun σ H Q => cJs (ts.map fun t => t W) Str.empty σ H fun out H1 => Q (.str out) H1) :=
  PE_imp (pe_joined h) fun σ H Q q => cJs_up q
theorem bltR_ok (c : COk g lev X N sc W) {x : Str} {v : Value} {r : RC} (h : bltR g x = some (v, r)) : CallR X v r ∧ Keeps X v := by
  have hc := c.calm
  have hm := PySem.mem_of_lookup (show (bltTab g).lookup x = some (v, r) from h)
  simp only [bltTab, List.mem_cons, List.not_mem_nil, or_false, Prod.mk.injEq] at hm
  rcases hm with ⟨_, rfl, rfl⟩ | ⟨_, rfl, rfl⟩ | ⟨_, rfl, rfl⟩ | ⟨_, rfl, rfl⟩ | ⟨_, rfl, rfl⟩ | ⟨_, rfl, rfl⟩ | ⟨_, rfl, rfl⟩ | ⟨_, rfl, rfl⟩ | ⟨_, rfl, rfl⟩ | ⟨_, rfl, rfl⟩ | ⟨_, rfl, rfl⟩ | ⟨_, rfl, rfl⟩ | ⟨_, rfl, rfl⟩ | ⟨_, rfl, rfl⟩ | ⟨_, rfl, rfl⟩ | ⟨_, rfl, rfl⟩
  all_goals try rw [← c.hK]
  · exact ⟨b_lenG c (by rw [← c.hK]; exact b_len), keeps_blt⟩
  · exact ⟨b_isi, keeps_blt⟩
  · exact ⟨b_all hc, keeps_blt⟩
  · exact ⟨b_any hc, keeps_blt⟩
  · exact ⟨b_sum hc, keeps_blt⟩
  · exact ⟨b_abs, keeps_blt⟩
  · exact ⟨b_max hc, keeps_blt⟩
  · exact ⟨b_min hc, keeps_blt⟩
  · exact ⟨b_ord, keeps_blt⟩
  · exact ⟨b_int, keeps_ty⟩
  · exact ⟨b_strG c, keeps_ty⟩
  · exact ⟨b_list hc, keeps_ty⟩
  · exact ⟨b_tuple, keeps_ty⟩
  · exact ⟨b_dict hc, keeps_ty⟩
  · exact ⟨b_boolG c, keeps_ty⟩
  · exact ⟨b_sorted hc, keeps_blt⟩
theorem pe_blt {x : Str} {p pos : Pos} {es : List Expr} {t : TA} {v : Value} {r : RC} (hc : CallR X v r) (hk : Keeps X v) (hg : Gl X x) (hm : X.mg x = none) (hv : bootBuiltins x = some v) (hx : plainName x = true) (hnil : es = [] → t = tNil) (hst : es.all notStar = true) (ha : PA X es t) :
    PE X (.Call (.Name x p) es [] pos) (tCB r t) := by
  refine ⟨fun pins s σ H Q I h => ?_⟩
  refine wpAny_Call_Name_kw (ld_blt I hg hm hv ?_ (plain_n hx) (plain_d hx))
  refine args_of (tk := tNil) (ks := []) (first := []) (R := fun vs zs H2 => zs = [] ∧ r vs H2 Q) hk hnil hst rfl ha pk_nil I (?_ : t σ H fun vs H2 => tNil σ H2 fun zs H3 => zs = [] ∧ r vs H3 Q) fun vs zs us ws s2 H2 I2 r1 rz q => ?_
  · have e : (fun (vs : List V) (H2 : Hp) => tNil σ H2 fun zs H3 => zs = [] ∧ r vs H3 Q) = fun vs H2 => r vs H2 Q := by
      funext vs H2
      exact propext ⟨fun z => z.2, fun z => ⟨rfl, z⟩⟩
    rw [e]
    exact h
  · obtain ⟨rfl, q⟩ := q
    exact hc pins s2 σ H2 vs us Q I2 r1 q
theorem pe_mk (c : COk g lev X N sc W) {i : MkI} {p pos : Pos} {es : List Expr} {kws : List Keyword} {t tk : TA} (hi : i ∈ g.mks) (hn : i.n = es.length) (hks : kwNames kws = some i.ks) (hg : Gl X i.name) (hx : plainName i.name = true) (hnil : es = [] → t = tNil) (hst : es.all notStar = true) (ha : PA X es t) (hw : PK X kws tk) :
    PE X (.Call (.Name i.name p) es kws pos) (cMk i.cls es.length i.ks.length i.arr i.sp t tk W) := by
  obtain ⟨fa, fd, ps, gf, hm, M, F, kb⟩ := c.gok.mks i hi
  rw [← c.hK] at M F kb
  rw [hn] at kb
  refine ⟨fun pins s σ H Q I h => ?_⟩
  refine wpAny_Call_Name_kw (ld_glob I hg hm ?_ (plain_d hx))
  refine args_of (first := []) (R := fun vs zs H2 => vs.length = es.length ∧ zs.length = i.ks.length ∧ ∀ x dx, H2 x = none → H2 dx = none → dx ≠ x → i.sp (.ref x :: i.arr vs zs) (upd (upd H2 dx (.own x)) x (.ins i.cls dx [])) (fun v H3 => v = .non ∧ Q (.ref x) H3) (fun cls d H' => W cls d σ H')) (keeps_ref M.kp) hnil hst hks ha hw I h fun vs zs us ws s2 H2 I2 r rz q => ?_
  obtain ⟨l1, l2, q⟩ := q
  have hq := q (s2.heap.objs.size + 1) s2.heap.objs.size (I2.hok.fresh (Nat.le_succ _)) (I2.hok.fresh (Nat.le_refl _)) (Nat.ne_of_lt (Nat.lt_succ_self _))
  have I3 := Inv.made (C := i.cls) I2
  have r2 : Vals (V.ref (s2.heap.objs.size + 1) :: vs) (Value.ref (s2.heap.objs.size + 1) :: us) := .cons rfl r
  have r3 := kb.rel r2 rz
  have e1 : (Value.ref (s2.heap.objs.size + 1) :: us).length = es.length + 1 := r2.length.symm.trans (congrArg Nat.succ l1)
  have e2 : ws.length = i.ks.length := rz.length.symm.trans l2
  refine wpAny_call (make_map (f := fa) (kw := i.ks.zip ws) I2.kIn M.makes M.init (beq_iff_eq.mp M.fn) (codeAny_mono (F.run _ X.stack _ _ ⟨Value.ref (s2.heap.objs.size + 1) :: us, i.ks.zip ws⟩ (gf (Value.ref (s2.heap.objs.size + 1) :: us) ws) _ _ _ (c.room.make i.cls us (i.ks.zip ws))
    (I3.env0.make i.cls us (i.ks.zip ws)) (kb.to _ (Value.ref (s2.heap.objs.size + 1) :: us) ws I3.kIn e1 e2) r3 hq) fun r s' hq' => ?_))
  cases r with
  | error e => exact c.tk e s' (XE.of_call I3 (fun _ _ _ h => h) hq')
  | ok fl =>
    cases fl with
    | ret u =>
      obtain ⟨v, H', I4, rv, ev, q3⟩ := I3.after hq'
      subst ev
      exact ⟨rv, ⟨V.ref (s2.heap.objs.size + 1), H', I4, rfl, q3⟩⟩
    | next => exact False.elim hq'
    | brk => exact False.elim hq'
    | cont => exact False.elim hq'
theorem tCallName_ok (c : COk g lev X N sc W) (h : SE X W f) {x : Str} {p pos : Pos} {es : List Expr} {kws : List Keyword} {t : WX → TE} (q : tCallName g f sc x es kws = some t) : PE X (.Call (.Name x p) es kws pos) (t W) := by
  unfold tCallName at q
  split at q
  · rename_i hx
    have hg : Gl X x := by unfold Gl Env.kindOf; rw [c.hsc]; exact hx.2
    split at q
    · rename_i ks ta tk e1 e2 e3
      obtain ⟨a1, a2, a3⟩ := tArgs_ok h e2
      obtain ⟨b1, b2⟩ := tKws_ok h e3
      split at q
      · rename_i i ei
        cases q
        have hi := List.mem_of_find?_eq_some ei
        have hp := List.find?_some ei
        simp only [Bool.and_eq_true, decide_eq_true_eq] at hp
        obtain ⟨⟨p1, p2⟩, p3⟩ := hp
        obtain ⟨fa, fd, ps, gf, m1, m2, F, kb⟩ := c.gok.fns i hi
        rw [← c.hK] at m2 F kb
        rw [p1] at m1
        rw [p2, p3] at kb
        exact pe_own F c.room0 kb c.tk hg m1 m2 hx.1 a3 a2 e1 a1 b1
      · split at q
        · rename_i i ei
          cases q
          have hi := List.mem_of_find?_eq_some ei
          have hp := List.find?_some ei
          simp only [Bool.and_eq_true, decide_eq_true_eq] at hp
          obtain ⟨⟨p1, p2⟩, p3⟩ := hp
          subst p1 p3
          exact pe_mk c hi p2 e1 hg hx.1 a3 a2 a1 b1
        · split at q
          · rename_i hb
            obtain ⟨hb, rfl, hne⟩ := hb
            split at q
            · rename_i v r er
              split at q
              · rename_i hv
                cases q
                have o12 : CallR X v r ∧ Keeps X v := by
                  split at er
                  · rename_i D eD
                    cases er
                    refine ⟨b_isO c ?_, keeps_blt⟩
                    unfold isOwn at eD
                    split at eD
                    · split at eD
                      · exact List.mem_of_find?_eq_some eD
                      · cases eD
                    · cases eD
                  · exact bltR_ok c er
                obtain ⟨o1, o2⟩ := o12
                exact pe_blt o1 o2 hg (c.gok.blt x hb) hv hx.1 a3 a2 a1
              · cases q
            · cases q
          · cases q
    · cases q
  · cases q
theorem cAttr_ok (c : COk g lev X N sc W) {o : Expr} {a : Str} {pos : Pos} {cs : List Addr} {to : TE} (hb : baseOk o = true) (hc : g.ats.lookup a = some cs) (ho : PE X o to) : PE X (.Attribute o a pos) (cAttr cs a to) := by
  refine PE_imp (pe_fld (PE_up ho) (base_of hb)) fun σ H Q h => ⟨_, h, fun x H1 q => ?_⟩
  try dsimp only at q
  split at q
  · rename_i p C fs e
    obtain ⟨hC, q⟩ := q
    obtain ⟨dx, rfl, ea⟩ := insOf_ok e
    obtain ⟨k1, k2⟩ := c.gok.ats _ (lookup_mem hc) C hC
    split at q
    · rename_i v ev
      rw [c.hK]
      exact ⟨_, _, _, _, v, rfl, ea, k1, k2, ev, q⟩
    · exact q.elim
  · exact q.elim
theorem tDict_ok (c : COk g lev X N sc W) (h : SE X W f) {ks : List (Option Expr)} {vs : List Expr} {pos : Pos} {t : WX → TE} (q : tDict f ks vs = some t) : PE X (.Dict ks vs pos) (t W) := by
  unfold tDict at q
  split at q
  · cases q; exact pe_dnewK
  · rename_i hne
    split at q
    · rename_i h15
      split at q
      · rename_i trs e
        cases q
        obtain ⟨p1, p2, p3⟩ := tPairs_ok h (pos := pos) e
        refine pe_disp p1 p2 p3 (fun z => ?_) h15
        subst z
        have : vs = [] := List.length_eq_zero_iff.mp p3.symm
        exact hne rfl this
      · cases q
    · cases q
end
theorem blk_fn {X : Cx} {scope : Scope} {s : Shared} {H : Hp} {cenv : Env} {fp : List Addr} : ∀ x, okBlk scope x = true → (X.blk s H scope cenv fp).fn x = true := fun x h => h

theorem plain_true {e : Expr} {env : Env} {whole : Sem Value} (h : plainTest e = true) : isTrue e env whole = (do let v ← whole; standAt e.pos; holding [v] (truthy v)) := by
  cases e <;> first | rfl | exact absurd h Bool.false_ne_true
theorem pe_orLock {X : Cx} {e : Expr} {t : TE} (h : PE X e t) : PE X e (fun σ H Q => t σ H Q ∨ tLockE t σ H Q) :=
  ⟨fun pins s σ H Q I q => q.elim (fun q => h.run pins s σ H Q I q) fun q => (pe_lock h).run pins s σ H Q I q⟩
/-- THE READING OF EXPRESSIONS IS RIGHT -/
theorem tET_ok (g : G) : ∀ (n : Nat), (∀ N sc e t, tE g n N sc e = some t → ∀ {lev X W}, COk g lev X N sc W → PE X e (t W)) ∧ (∀ N sc e t, tT g n N sc e = some t → ∀ {lev X W}, COk g lev X N sc W → PT X e (t W))
  | 0 => ⟨fun N sc e t q => by simp [tE] at q, fun N sc e t q => by simp [tT] at q⟩
  | n + 1 => by
    obtain ⟨ihE, ihT⟩ := tET_ok g n
    have seE : ∀ {N sc lev X W}, COk g lev X N sc W → SE X W (tE g n N sc) := fun c e t q => ihE _ _ e t q c
    have seT : ∀ {N sc lev X W}, COk g lev X N sc W → ST X W (tT g n N sc) := fun c e t q => ihT _ _ e t q c
    have hE : ∀ N sc e t, tE g (n + 1) N sc e = some t → ∀ {lev X W}, COk g lev X N sc W → PE X e (t W) := by
      intro N sc e t q lev X W c
      unfold tE at q
      split at q
      · split at q
        · cases q; exact pe_int
        · cases q; exact pe_bl
        · cases q; exact pe_non
        · cases q; exact pe_str
        · cases q
      · obtain ⟨u, hu, rfl⟩ := Option.map_eq_some_iff.mp q
        exact tName_ok hu c
      · split at q
        · rename_i e1 e2 e3
          cases q
          exact pe_op (opR_ok c e1) (ihE _ _ _ _ e2 c) (ihE _ _ _ _ e3 c)
        · cases q
      · split at q
        · rename_i hs
          split at q
          · rename_i e1 e2 e3
            cases q
            exact pe_cmpR (cmpR_ok c e1) (ihE _ _ _ _ e2 c) (ihE _ _ _ _ e3 c) (notSet_b hs)
          · cases q
        · cases q
      · split at q
        · rename_i hs
          split at q
          · rename_i e1 e2 e3 e4 e5
            cases q
            exact pe_chain' (cmpR_ok c e1) (cmpR_ok c e2) (ihE _ _ _ _ e3 c) (ihE _ _ _ _ e4 c) (ihE _ _ _ _ e5 c) (notSet_l hs)
          · cases q
        · cases q
      · rw [← c.hK] at q
        exact tBool_ok (seE c) true q
      · rw [← c.hK] at q
        exact tBool_ok (seE c) false q
      · obtain ⟨u, hu, rfl⟩ := Option.map_eq_some_iff.mp q
        rw [← c.hK]
        exact pe_not' (ihE _ _ _ _ hu c)
      · obtain ⟨u, hu, rfl⟩ := Option.map_eq_some_iff.mp q
        exact pe_neg' (ihE _ _ _ _ hu c)
      · split at q
        · rename_i e1 e2 e3
          cases q
          exact pe_ifExp (ihT _ _ _ _ e1 c) (ihE _ _ _ _ e2 c) (ihE _ _ _ _ e3 c)
        · cases q
      · exact tCallName_ok c (seE c) q
      · split at q
        · rename_i hb
          split at q
          · rename_i e1 e2 e3 e4
            cases q
            obtain ⟨a1, a2, a3⟩ := tArgs_ok (seE c) e3
            obtain ⟨b1, b2⟩ := tKws_ok (seE c) e4
            refine pe_methG c hb.1 a2 e1 hb.2.2 hb.2.1 (fun i hi => ?_) (fun b hbm => ?_) a3 b2 (ihE _ _ _ _ e2 c) a1 b1
            · obtain ⟨z1, z2⟩ := List.mem_filter.mp hi
              simp only [Bool.and_eq_true, decide_eq_true_eq] at z2
              exact ⟨z1, z2.1.1, z2.1.2, z2.2⟩
            · obtain ⟨z1, z2⟩ := List.mem_filter.mp hbm
              rw [← c.hK] at z1
              exact ⟨bms_ok c.hu1 b z1, of_decide_eq_true z2⟩
          · cases q
        · cases q
      · obtain ⟨u, hu, rfl⟩ := Option.map_eq_some_iff.mp q
        exact pe_lst (tArgs_ok (seE c) hu).1
      · obtain ⟨u, hu, rfl⟩ := Option.map_eq_some_iff.mp q
        exact pe_tup (tArgs_ok (seE c) hu).1
      · exact tDict_ok c (seE c) q
      · split at q
        · rename_i e1 e2 e3
          cases q
          rw [← c.hK]
          exact pe_slice r_sl (ihE _ _ _ _ e1 c) (tPartO_ok (seE c) e2) (tPartO_ok (seE c) e3)
        · cases q
      · split at q
        · rename_i hs
          split at q
          · rename_i e1 e2
            cases q
            rw [← c.hK]
            exact pe_ix (r_ix c.hu1) (ihE _ _ _ _ e1 c) (ihE _ _ _ _ e2 c) (notSlice_ix hs)
          · cases q
        · cases q
      · split at q
        · rename_i hb
          split at q
          · rename_i e1 e2
            cases q
            exact cAttr_ok c hb e1 (ihE _ _ _ _ e2 c)
          · cases q
        · cases q
      · split at q
        · rename_i hb
          split at q
          · rename_i wi gt tt te e1 e2 e3 e4
            cases q
            obtain ⟨i1, i2⟩ := tI_ok c (seE c) e1
            have ok : BlkOk X.N X.env.scope _ _ := blkOk_by (by rw [c.hN, c.hsc]; exact hb)
            exact pe_orLock (PE_imp (pe_lc c.calm c.nd (PI_up i1) ok (fun s H C cl fp => tG_ok (cok_blk c) (seE (cok_blk c)) blk_fn 12 _ _ e2)
                (fun s H C cl fp => tIfs_ok (seT (cok_blk c)) e3) (fun s H C cl fp => ihE _ _ _ _ e4 (cok_blk c)) (fun x => notSet_f i2)) fun σ H Q h => ⟨_, h, fun J H' q D hD => lpc_W (q D hD)⟩)
          · cases q
        · cases q
      · split at q
        · rename_i hb
          split at q
          · rename_i wi gt tt tk tv e1 e2 e3 e4 e5
            cases q
            obtain ⟨i1, i2⟩ := tI_ok c (seE c) e1
            have ok : BlkOk X.N X.env.scope _ _ := blkOk_by (by rw [c.hN, c.hsc]; exact hb)
            exact pe_orLock (PE_imp (pe_dc c.calm c.nd (PI_up i1) ok (fun s H C cl fp => tG_ok (cok_blk c) (seE (cok_blk c)) blk_fn 12 _ _ e2)
                (fun s H C cl fp => tIfs_ok (seT (cok_blk c)) e3) (fun s H C cl fp => ihE _ _ _ _ e4 (cok_blk c)) (fun s H C cl fp => ihE _ _ _ _ e5 (cok_blk c)) (fun x => notSet_f i2)) fun σ H Q h => ⟨_, h, fun J H' q D hD => lpd_W (q D hD)⟩)
          · cases q
        · cases q
      · split at q
        · rename_i hv
          obtain ⟨u, hu, rfl⟩ := Option.map_eq_some_iff.mp q
          rw [hv]
          exact pe_fmt' (ihE _ _ _ _ hu c)
        · cases q
      · obtain ⟨u, hu, rfl⟩ := Option.map_eq_some_iff.mp q
        exact pe_joined' (tArts_ok (seE c) hu)
      · exact pe_joined1 (ihE _ _ _ _ q c)
      · cases q
    refine ⟨hE, fun N sc e t q lev X W c => ?_⟩
    unfold tT at q
    split at q
    · split at q
      · rename_i hs
        split at q
        · rename_i e1 e2 e3
          cases q
          exact pt_cmp' (cmpR_ok c e1) (ihE _ _ _ _ e2 c) (ihE _ _ _ _ e3 c) (notSet_b hs)
        · cases q
      · cases q
    · split at q
      · rename_i hs
        split at q
        · rename_i e1 e2 e3 e4 e5
          cases q
          exact pt_chain' (cmpR_ok c e1) (cmpR_ok c e2) (ihE _ _ _ _ e3 c) (ihE _ _ _ _ e4 c) (ihE _ _ _ _ e5 c) (notSet_l hs)
        · cases q
      · cases q
    · exact (tBoolT_ok (seT c) true q).pt
    · exact (tBoolT_ok (seT c) false q).pt
    · obtain ⟨u, hu, rfl⟩ := Option.map_eq_some_iff.mp q
      exact pt_not (ihT _ _ _ _ hu c)
    · split at q
      · rename_i hp
        obtain ⟨u, hu, rfl⟩ := Option.map_eq_some_iff.mp q
        rw [← c.hK]
        exact pt_tru' (ihE _ _ _ _ hu c) fun whole => plain_true hp
      · cases q
end WR

set_option Elab.async false
set_option linter.all false
set_option maxRecDepth 100000
set_option maxHeartbeats 4000000
namespace WR
open PySem PySem.Spec PyProof.Rows L2

/-! ## 19. statements -/
def notComp : Expr → Bool
  | .ListComp _ _ _ _ | .SetComp _ _ _ _ | .DictComp _ _ _ _ _ => false
  | _ => true
theorem notComp_sw {e : Expr} {t : Option Expr} {l : Nat} {env : Env} (h : notComp e = true) : swapsWith e t l env = pure false := by
  cases e <;> first | rfl | exact absurd h Bool.false_ne_true
def oIAdd (K : PySem.W.Frag) : R2 := fun x y H Q => match x, y with
  | .int i, .int j => Q (.int (i + j)) H
  | .str a, .str b => a.length + b.length ≤ sizeLine ∧ Q (.str (a ++ b)) H
  | .ref l, .ref b => (match H l, H b with
    | some (.lst xs), some (.lst zs) => xs.length + zs.length ≤ sizeLine ∧ Q (.ref l) (upd H l (.lst (xs ++ zs)))
    | _, _ => False)
  | _, _ => False
def iopR (K : PySem.W.Frag) : Operator → Option R2
  | .Add => some (oIAdd K)
  | .Sub => some oSub
  | _ => none
section
variable {X : Cx}
theorem r_iadd : OpR X (inplaceOp .Add) (oIAdd X.K) := OpR_imp (iop_add.or (iop_add_str.or iop_ext)) fun x y H Q h => by
  unfold oIAdd at h
  split at h
  · exact .inl ⟨_, _, rfl, rfl, h⟩
  · exact .inr (.inl ⟨_, _, rfl, rfl, h.1, h.2⟩)
  · split at h
    · rename_i e f; exact .inr (.inr ⟨_, _, _, _, rfl, rfl, e, f, h.1, h.2⟩)
    · exact h.elim
  · exact h.elim
theorem r_isub : OpR X (inplaceOp .Sub) oSub := OpR_imp iop_sub fun x y H Q h => by
  unfold oSub at h
  split at h
  · exact ⟨_, _, rfl, rfl, h⟩
  · exact h.elim
end
/-- self.f = e -/
def cFldS (cands : List Addr) (f : Str) (ta tv : TE) : TS := fun D σ H => tv σ H fun y H1 => ta σ H1 fun x H2 => match x with
  | .ref a => (match H2 a with
    | some (.ins C dx fs) => C ∈ cands ∧ fs.length < 1000 ∧ D.nx σ (upd H2 a (.ins C dx (putF f y fs)))
    | _ => False)
  | _ => False
/-- self.f += e, whole numbers -/
def cFldAug (cands : List Addr) (f : Str) (sub : Bool) (ta tv : TE) : TS := fun D σ H => ta σ H fun x H1 => match x with
  | .ref a => (match H1 a with
    | some (.ins C dx fs) => C ∈ cands ∧ (match fs.lookup f with
      | some (.int i) => tv σ H1 fun y H2 => (match y with
        | .int j => (match H2 a with
          | some (.ins C' dx' fs') => C' = C ∧ fs'.length < 1000 ∧ D.nx σ (upd H2 a (.ins C dx' (putF f (.int (if sub then i - j else i + j)) fs')))
          | _ => False)
        | _ => False)
      | _ => False)
    | _ => False)
  | _ => False
def cPar (i j : Nat) (ta : TA) : TS := fun D σ H => ta σ H fun vs H1 => match vs with
  | [v, w] => D.nx ((σ.set i (some v)).set j (some w)) H1
  | _ => False
def cAug (i : Nat) (te : TE) (r : R2) : TS := fun D σ H => match σ[i]? with
  | some (some x) => te σ H fun y H1 => r x y H1 fun z H2 => D.nx (σ.set i (some z)) H2
  | _ => False
abbrev bad : WX → TS := fun _ => tNever
/-- what the stores of a, b = x, y are: plain local names on one line are stored from the right -/
def swR (sc : Scope) (ts vs : List Expr) : Option (Option (List Str)) :=
  if (!(ts.length == 2 || ts.length == 3) || vs.length != ts.length) = true then some none else
  if (vs.any fun | .Starred .. => true | _ => false) = true then some none else
  let names := ts.filterMap fun
    | .Name id pos => if (sc.names.lookup id == some .local && pos.line == (ts.head?.map (·.pos.line)).getD 0) = true then some id else none
    | _ => none
  if (names.length != ts.length || names.eraseDups.length != names.length) = true then some none else
  if vs.all (foldedForSure 8) = true then some none else
  if vs.all (constantsAlone 8) = true then none else some (some names)
theorem swR_ok {sc : Scope} {ts vs : List Expr} {r : Option (List Str)} {env : Env} {k k2 : Nat} {p p2 : Pos} (hb : env.blockKind = .function) (hs : env.scope = sc) (h : swR sc ts vs = some r) :
    swappedStores [.Tuple ts k p] (.Tuple vs k2 p2) env = pure r := by
  subst hs
  have hb' : (env.blockKind != ScopeKind.function) = false := by rw [hb]; rfl
  unfold swR at h
  unfold swappedStores
  simp only [hb', Bool.or_false]
  split at h
  · rename_i c; refine (if_pos c).trans ?_; cases h; rfl
  · rename_i c; refine (if_neg c).trans ?_
    split at h
    · rename_i c; refine (if_pos c).trans ?_; cases h; rfl
    · rename_i c; refine (if_neg c).trans ?_
      dsimp only at h
      split at h
      · rename_i c; refine (if_pos c).trans ?_; cases h; rfl
      · rename_i c; refine (if_neg c).trans ?_
        split at h
        · rename_i c; refine (if_pos c).trans ?_; cases h; rfl
        · rename_i c; refine (if_neg c).trans ?_
          split at h
          · cases h
          · rename_i c; refine (if_neg c).trans ?_; cases h; rfl
theorem sw_cond {elt : Expr} {gs : List Comprehension} {scope : Scope} {pos py : Pos} {y : Str} {l : Nat} {env : Env} :
    swapsWith (.ListComp elt gs scope pos) (some (.Name y py)) l env = pure (env.blockKind == .function && env.kindOf y == some .local && py.line == pos.line && !(scope.names.any fun (n, k) => n == y && (k == .local || k == .cell))) := rfl
end WR

set_option Elab.async false
set_option linter.all false
set_option maxRecDepth 100000
set_option maxHeartbeats 4000000
namespace WR
open PySem PySem.Spec PyProof.Rows L2

def isName : Expr → Bool
  | .Name _ _ => true
  | _ => false
def tupPair : Expr → Expr → Bool
  | .Tuple _ _ _, .Tuple _ _ _ => true
  | .List _ _, .Tuple _ _ _ => true
  | _, _ => false
theorem tupPair_ok {t v : Expr} {env : Env} (h : tupPair t v = false) : swappedStores [t] v env = pure none := by
  cases t <;> first
    | rfl
    | (cases v <;> first | rfl | exact absurd h.symm Bool.false_ne_true)
def cPar3 (i j l : Nat) (ta : TA) : TS := fun D σ H => ta σ H fun vs H1 => match vs with
  | [u, v, w] => D.nx (((σ.set i (some u)).set j (some v)).set l (some w)) H1
  | _ => False
def anyOwn (scope : Scope) (y : Str) : Bool := scope.names.any fun (n, k) => n == y && (k == .local || k == .cell)
/-- target = value, generally -/
def tAsgG (g : G) (f : Expr → OE) (N : List Str) (sc : Scope) (tg v : Expr) : Option (WX → TS) :=
  if tupPair tg v = false ∧ notStar tg = true ∧ (notComp v = true ∨ isName tg = false) then (match tG g.K f N sc (fun _ => true) 12 tg, f v with
    | some gt, some tv => some fun W => tAsg (tv W) (gt W)
    | _, _ => none) else none
def tParS (g : G) (f : Expr → OE) (N : List Str) (sc : Scope) : Expr → Expr → Option (WX → TS)
  | .Tuple ts _ _, .Tuple vs _ _ => (match swR sc ts vs, tArgs f vs with
    | some (some _), some t => (match ts, vs with
      | [.Name x _, .Name y _], [_, _] => if sc.names.lookup x = some .local ∧ sc.names.lookup y = some .local ∧ x ≠ y ∧ swR sc ts vs = some (some [x, y]) then (match ix? N x, ix? N y with
          | some i, some j => some fun W => cPar i j (t W)
          | _, _ => none) else none
      | [.Name x _, .Name y _, .Name z _], [_, _, _] => if sc.names.lookup x = some .local ∧ sc.names.lookup y = some .local ∧ sc.names.lookup z = some .local ∧ x ≠ y ∧ x ≠ z ∧ y ≠ z ∧ swR sc ts vs = some (some [x, y, z]) then (match ix? N x, ix? N y, ix? N z with
          | some i, some j, some l => some fun W => cPar3 i j l (t W)
          | _, _, _ => none) else none
      | _, _ => none)
    | some none, some t => (match tGs g.K f N sc (fun _ => true) 12 ts with
      | some gs => if ts.all notStar = true then some fun W => tAsg (tTup (t W)) (cTupG g.K ts.length (gs W)) else none
      | none => none)
    | _, _ => none)
  | _, _ => none
/-- name = [.. for ..] -/
def tSetLc (g : G) (n : Nat) (N : List Str) (sc : Scope) : Expr → Expr → Option (WX → TS)
  | .Name y py, .ListComp elt [⟨tg, iter, ifs, 0⟩] scope pos =>
    if plainName y = true ∧ sc.names.lookup y = some .local ∧ (py.line == pos.line) = true ∧ anyOwn scope y = false ∧ blkC N sc scope (ownOf N scope) = true then
      (match ix? N y, tI g (tE g n N sc) sc tg iter, tG g.K (tE g n N (relS scope sc)) N (relS scope sc) (okBlk scope) 12 tg, tIfs (tT g n N (relS scope sc)) ifs, tE g n N (relS scope sc) elt with
      | some i, some wi, some gt, some tt, some te => some fun W D σ H => tAsg (cLc (wi W) (gt wNone) (tt wNone) (te wNone) ((ownOf N scope).map (·.2))) (gName i) D σ H ∨ tLock (tAsg (cLc (wi W) (gt wNone) (tt wNone) (te wNone) ((ownOf N scope).map (·.2))) (gName i)) D σ H
      | _, _, _, _, _ => none)
    else none
  | .Name y py, .ListComp elt gs scope pos =>
    if sc.names.lookup y ≠ some .local ∨ (py.line == pos.line) = false ∨ anyOwn scope y = true then (match tG g.K (tE g n N sc) N sc (fun _ => true) 12 (.Name y py), tE g n N sc (.ListComp elt gs scope pos) with
      | some gt, some tv => some fun W => tAsg (tv W) (gt W)
      | _, _ => none) else none
  | _, _ => none
def tAssign (g : G) (n : Nat) (N : List Str) (sc : Scope) (tg v : Expr) : Option (WX → TS) := match tg with
  | .Attribute o a _ => if baseOk o = true then (match g.ats.lookup a, tE g n N sc o, tE g n N sc v with
    | some cs, some to, some tv => some fun W => cFldS cs a (to W) (tv W)
    | _, _, _ => none) else none
  | _ => match tSetLc g n N sc tg v with
    | some t => some t
    | none => match tParS g (tE g n N sc) N sc tg v with
      | some t => some t
      | none => tAsgG g (tE g n N sc) N sc tg v
def orBad (o : Option (WX → TS)) : WX → TS := match o with
  | some t => t
  | none => bad
def tBody (f : Stmt → WX → TS) : List Stmt → WX → TS
  | [] => fun _ => tNext
  | [s] => f s
  | s :: r => fun W => tSeq (f s W) (tBody f r W)
def tS (g : G) : Nat → List Str → Scope → Stmt → WX → TS
  | 0, _, _, _ => fun _ => tNever
  | n + 1, N, sc, st => fun W => match st with
    | .Pass _ => tNext
    | .Break _ => tBreak
    | .Continue _ => tCont
    | .Expr e _ => if notComp e = true then orBad ((tE g n N sc e).map fun t W => tDrop (t W)) W else tNever
    | .Return none _ => tRetN
    | .Return (some e) _ => orBad ((tE g n N sc e).map fun t W => tRet (t W)) W
    | .Assign [tg] v _ => orBad (tAssign g n N sc tg v) W
    | .AugAssign (.Name x _) op v _ => orBad (match sc.names.lookup x, ix? N x, iopR g.K op, tE g n N sc v with
      | some .local, some i, some r, some tv => some fun W => cAug i (tv W) r
      | some .cell, some i, some r, some tv => some fun W => cAug i (tv W) r
      | _, _, _, _ => none) W
    | .AugAssign (.Attribute o a _) .Add v _ => orBad (match g.ats.lookup a, tE g n N sc o, tE g n N sc v with
      | some cs, some to, some tv => some fun W => cFldAug cs a false (to W) (tv W)
      | _, _, _ => none) W
    | .AugAssign (.Attribute o a _) .Sub v _ => orBad (match g.ats.lookup a, tE g n N sc o, tE g n N sc v with
      | some cs, some to, some tv => some fun W => cFldAug cs a true (to W) (tv W)
      | _, _, _ => none) W
    | .If c a b _ => (match tT g n N sc c with
      | some tc => tIfS (tc W) (tBody (tS g n N sc) a W) (tBody (tS g n N sc) b W)
      | none => tNever)
    | .While c a [] _ => (match tT g n N sc c with
      | some tc => cWhile (tc W) (tBody (tS g n N sc) a W)
      | none => tNever)
    | .For tg iter body [] _ => (match tI g (tE g n N sc) sc tg iter, tG g.K (tE g n N sc) N sc (fun _ => true) 12 tg with
      | some wi, some gt => fun D σ H => cFor (wi W) (gt W) (tBody (tS g n N sc) body W) D σ H ∨ tLock (cFor (wi W) (gt W) (tBody (tS g n N sc) body W)) D σ H
      | _, _ => tNever)
    | _ => tNever

/-- where a statement is read -/
structure KOk (g : G) (lev : Nat) (X : Cx) (N : List Str) (sc : Scope) (W : WX) : Prop extends COk g lev X N sc W where
  hp : PassesOwn (model X.prog X.w) X.A X.env X.xe
  stk : X.stack = X.env :: X.outer
  fr : X.env.frame = some X.env.locals
  hfn : ∀ x, X.fn x = true
  kind : X.env.scope.kind = .function
section
variable {g : G} {lev : Nat} {X : Cx} {N : List Str} {sc : Scope} {W : WX} {f : Expr → OE}
theorem ps_bad {st : Stmt} : PS X st tNever := ps_never
theorem orBad_ok {st : Stmt} {o : Option (WX → TS)} (h : ∀ t, o = some t → PS X st (t W)) : PS X st (orBad o W) := by
  unfold orBad
  split
  · exact h _ rfl
  · exact ps_never
theorem KOk.bk (c : KOk g lev X N sc W) : X.env.blockKind = .function := by unfold Env.blockKind; rw [c.kind]; rfl
theorem tAsgG_ok (c : KOk g lev X N sc W) (h : SE X W f) {tg v : Expr} {pos : Pos} {t : WX → TS} (q : tAsgG g f N sc tg v = some t) : PS X (.Assign [tg] v pos) (t W) := by
  unfold tAsgG at q
  split at q
  · rename_i hc
    obtain ⟨h1, h2, h3⟩ := hc
    split at q
    · rename_i e1 e2
      cases q
      refine ps_asg (h _ _ e2) (tG_ok c.toCOk h (fun x _ => c.hfn x) 12 _ _ e1) ?_ (tupPair_ok h1) (by rw [assign_star h2]; rfl)
      show swapsWith v (some tg) pos.line X.env = pure false
      rcases h3 with h3 | h3
      · exact notComp_sw h3
      · cases tg <;> first | (exact absurd h3.symm Bool.false_ne_true) | (cases v <;> rfl)
    · cases q
  · cases q
theorem tParS_ok (c : KOk g lev X N sc W) (h : SE X W f) {tg v : Expr} {pos : Pos} {t : WX → TS} (q : tParS g f N sc tg v = some t) : PS X (.Assign [tg] v pos) (t W) := by
  unfold tParS at q
  split at q
  · rename_i ts k p vs k2 p2
    split at q
    · rename_i nm ta e1 e2
      obtain ⟨a1, a2, a3⟩ := tArgs_ok h e2
      split at q
      · split at q
        · rename_i hc
          obtain ⟨l1, l2, ne, hsw⟩ := hc
          split at q
          · rename_i i j i1 i2
            cases q
            have hij : i ≠ j := fun e => ne (by
              have z1 := ix_get i1; have z2 := ix_get i2
              rw [e] at z1; rw [z1] at z2; exact Option.some.inj z2)
            refine PS_imp (ps_par (X := X) (pos := pos) c.calm c.nd (by rw [c.hN]; exact ix_get i1) (by rw [c.hN]; exact ix_get i2) hij (by rw [c.hsc]; exact l1) (by rw [c.hsc]; exact l2) (PA_up a1) (swR_ok c.bk c.hsc hsw) rfl) fun D σ H q => ⟨_, q, fun vs H1 q => ?_⟩
            try dsimp only at q
            split at q
            · exact ⟨_, _, rfl, q⟩
            · exact q.elim
          · cases q
        · cases q
      · split at q
        · rename_i hc
          obtain ⟨l1, l2, l3, ne1, ne2, ne3, hsw⟩ := hc
          split at q
          · rename_i i j l i1 i2 i3
            cases q
            have dif : ∀ {a b : Str} {m n : Nat}, a ≠ b → ix? N a = some m → ix? N b = some n → m ≠ n := fun ne i1 i2 e => ne (by
              have z1 := ix_get i1; have z2 := ix_get i2
              rw [e] at z1; rw [z1] at z2; exact Option.some.inj z2)
            refine PS_imp (ps_par3 (X := X) (pos := pos) c.calm c.nd (by rw [c.hN]; exact ix_get i1) (by rw [c.hN]; exact ix_get i2) (by rw [c.hN]; exact ix_get i3) (dif ne1 i1 i2) (dif ne2 i1 i3) (dif ne3 i2 i3) (by rw [c.hsc]; exact l1) (by rw [c.hsc]; exact l2) (by rw [c.hsc]; exact l3) (PA_up a1) (swR_ok c.bk c.hsc hsw) rfl) fun D σ H q => ⟨_, q, fun vs H1 q => ?_⟩
            try dsimp only at q
            split at q
            · exact ⟨_, _, _, rfl, q⟩
            · exact q.elim
          · cases q
        · cases q
      · cases q
    · rename_i ta e1 e2
      obtain ⟨a1, a2, a3⟩ := tArgs_ok h e2
      split at q
      · rename_i gs e3
        split at q
        · rename_i hs
          cases q
          have z := tGs_ok (okc := fun _ => true) c.toCOk h (fun x _ => c.hfn x) 12 _ _ e3
          refine ps_asg (pe_tup a1) ⟨fun pins s σ H v w Q I r hw => (pg_tup c.calm z assign_len (assign_none hs)).run pins s σ H v w Q I r ?_⟩ rfl (swR_ok c.bk c.hsc e1) rfl
          simp only [cTupG] at hw
          split at hw
          · split at hw
            · rename_i e; exact ⟨_, _, rfl, by rw [c.hK]; exact look_tup e, hw.1, hw.2⟩
            · exact hw.elim
          · exact hw.elim
        · cases q
      · cases q
    · cases q
  · cases q

theorem ps_orLock {st : Stmt} {t : TS} (h : PS X st t) : PS X st (fun D σ H => t D σ H ∨ tLock t D σ H) :=
  ⟨fun pins s σ H D I q => q.elim (fun q => h.run pins s σ H D I q) fun q => (ps_lock h).run pins s σ H D I q⟩
theorem seE (c : COk g lev X N sc W) (n : Nat) : SE X W (tE g n N sc) := fun e t q => (tET_ok g n).1 _ _ e t q c
theorem seT (c : COk g lev X N sc W) (n : Nat) : ST X W (tT g n N sc) := fun e t q => (tET_ok g n).2 _ _ e t q c
theorem sw_off {env : Env} {sc scope : Scope} {y : Str} {lb : Bool} (hs : env.scope = sc) (h : sc.names.lookup y ≠ some .local ∨ lb = false ∨ anyOwn scope y = true) :
    (env.blockKind == .function && env.kindOf y == some .local && lb && !(scope.names.any fun (n, k) => n == y && (k == .local || k == .cell))) = false := by
  rcases h with h | h | h
  · have : (env.kindOf y == some NameKind.local) = false := by
      unfold Env.kindOf; rw [hs]; exact beq_eq_false_iff_ne.mpr h
    rw [this]; simp
  · rw [h]; simp
  · have : (scope.names.any fun (n, k) => n == y && (k == .local || k == .cell)) = true := h
    rw [this]; simp
theorem tSetLc_ok (c : KOk g lev X N sc W) {n : Nat} {tg v : Expr} {pos : Pos} {t : WX → TS} (q : tSetLc g n N sc tg v = some t) : PS X (.Assign [tg] v pos) (t W) := by
  have c0 := c.toCOk
  unfold tSetLc at q
  split at q
  · split at q
    · rename_i hc
      obtain ⟨h0, h1, h2, h3, h4⟩ := hc
      split at q
      · rename_i i wi gt tt te e1 e2 e3 e4 e5
        cases q
        obtain ⟨i1, i2⟩ := tI_ok c0 (seE c0 n) e2
        have ok : BlkOk X.N X.env.scope _ _ := blkOk_by (by rw [c.hN, c.hsc]; exact h4)
        refine ps_orLock (PS_imp (ps_setLc c.calm c.nd (by rw [c.hN]; exact ix_get e1) (by rw [c.hsc]; exact h1) (sw_true c.kind (by rw [c.hsc]; exact h1) h2 h3) (PI_up i1) ok (fun s H C cl fp => tG_ok (cok_blk c0) (seE (cok_blk c0) n) blk_fn 12 _ _ e3)
          (fun s H C cl fp => tIfs_ok (seT (cok_blk c0) n) e4) (fun s H C cl fp => seE (cok_blk c0) n _ _ e5) (fun x => notSet_f i2)) fun D σ H h => ⟨_, h, fun J H' q D hD => lpc_W (q D hD)⟩)
      · cases q
    · cases q
  · split at q
    · rename_i hc
      split at q
      · rename_i e1 e2
        cases q
        refine ps_asg (seE c0 n _ _ e2) (tG_ok c0 (seE c0 n) (fun x _ => c.hfn x) 12 _ _ e1) ?_ rfl rfl
        refine Eq.trans (sw_cond (l := pos.line)) ?_
        refine congrArg (pure : Bool → Sem Bool) ?_
        exact sw_off c.hsc hc
      · cases q
    · cases q
  · cases q
theorem tAssign_ok (c : KOk g lev X N sc W) {n : Nat} {tg v : Expr} {pos : Pos} {t : WX → TS} (q : tAssign g n N sc tg v = some t) : PS X (.Assign [tg] v pos) (t W) := by
  have c0 := c.toCOk
  unfold tAssign at q
  split at q
  · split at q
    · rename_i hb
      split at q
      · rename_i e1 e2 e3
        cases q
        refine PS_imp (ps_fld (PE_up (seE c0 n _ _ e2)) (PE_up (seE c0 n _ _ e3)) ?_) fun D σ H q => ⟨_, q, fun y H1 q => ⟨_, q, fun x H2 q => ?_⟩⟩
        · cases v <;> rfl
        · try dsimp only at q
          split at q
          · split at q
            · rename_i ea
              obtain ⟨k1, k2⟩ := c.gok.ats _ (lookup_mem e1) _ q.1
              rw [c.hK]
              exact ⟨_, _, _, _, rfl, ea, k1, k2, q.2.1, q.2.2⟩
            · exact q.elim
          · exact q.elim
      · cases q
    · cases q
  · split at q
    · rename_i e; cases q; exact tSetLc_ok c e
    · split at q
      · rename_i e; cases q; exact tParS_ok c (seE c0 n) e
      · exact tAsgG_ok c (seE c0 n) q
theorem tBody_ok {f : Stmt → WX → TS} (h : ∀ st, PS X st (f st W)) : ∀ (l : List Stmt), PSs X l (tBody f l W)
  | [] => pss_nil
  | [s] => pss_one (h s)
  | s :: s2 :: r => show PSs X _ (tSeq (f s W) (tBody f (s2 :: r) W)) from pss_cons (h s) (tBody_ok h (s2 :: r))
theorem iopR_ok (c : COk g lev X N sc W) {op : Operator} {r : R2} (h : iopR g.K op = some r) : OpR X (inplaceOp op) r := by
  unfold iopR at h
  rw [← c.hK] at h
  split at h <;> cases h
  · exact r_iadd
  · exact r_isub
theorem aug_ok (c : KOk g lev X N sc W) {n : Nat} {x : Str} {px pos : Pos} {op : Operator} {v : Expr} {k : NameKind} {i : Nat} {r : R2} {tv : WX → TE} (hk : sc.names.lookup x = some k) (hkk : k = .local ∨ k = .cell) (hi : ix? N x = some i) (hr : iopR g.K op = some r) (hv : tE g n N sc v = some tv) :
    PS X (.AugAssign (.Name x px) op v pos) (cAug i (tv W) r) := by
  refine PS_imp (ps_aug (ti := r) c.nd (by rw [c.hN]; exact ix_get hi) ?_ (PE_up (seE c.toCOk n _ _ hv)) (iopR_ok c.toCOk hr) (.inl (c.hfn x))) fun D σ H q => ?_
  · unfold L2.Loc; rw [c.hsc, hk]; rcases hkk with rfl | rfl <;> simp
  · unfold cAug at q
    split at q
    · rename_i x e; exact ⟨x, e, _, q, fun _ _ q => q⟩
    · exact q.elim
theorem fldaug_ok (c : KOk g lev X N sc W) {n : Nat} {o v : Expr} {a : Str} {p pos : Pos} {cs : List Addr} {to tv : WX → TE} (sub : Bool) (h1 : g.ats.lookup a = some cs) (h2 : tE g n N sc o = some to) (h3 : tE g n N sc v = some tv) :
    PS X (.AugAssign (.Attribute o a p) (if sub then .Sub else .Add) v pos) (cFldAug cs a sub (to W) (tv W)) := by
  have c0 := c.toCOk
  have key : ∀ (rd : V → V → Hp → VK → Prop) (hop : InOp X (if sub then .Sub else .Add) rd), (∀ i j H Q, Q (.int (if sub then i - j else i + j)) H → rd (.int i) (.int j) H Q) → PS X (.AugAssign (.Attribute o a p) (if sub then .Sub else .Add) v pos) (cFldAug cs a sub (to W) (tv W)) := fun rd hop hrd => by
    refine PS_imp (ps_fldaug (PE_up (seE c0 n _ _ h2)) (PE_up (seE c0 n _ _ h3)) hop) fun D σ H q => ⟨_, q, fun x H1 q => ?_⟩
    try dsimp only at q
    split at q
    · split at q
      · rename_i ea
        obtain ⟨hC, q⟩ := q
        obtain ⟨k1, k2⟩ := c.gok.ats _ (lookup_mem h1) _ hC
        rw [c.hK]
        split at q
        · rename_i el
          refine ⟨_, _, _, _, _, rfl, ea, k1, k2, el, _, q, fun y H2 q => ?_⟩
          try dsimp only at q
          split at q
          · split at q
            · rename_i eb
              obtain ⟨rfl, hl, q⟩ := q
              exact hrd _ _ _ _ ⟨_, _, eb, hl, q⟩
            · exact q.elim
          · exact q.elim
        · exact q.elim
      · exact q.elim
    · exact q.elim
  cases sub with
  | true => exact key rSub in_sub fun i j H Q q => ⟨i, j, rfl, rfl, q⟩
  | false => exact key rAdd in_add fun i j H Q q => ⟨i, j, rfl, rfl, q⟩
theorem lpw_W {c : TT} {tb : TS} {D : Ends} {σ : St} {H : Hp} (h : ∃ n, lpw c tb D n σ H) : tWhile (upT c) tb D σ H := by
  obtain ⟨n, h⟩ := h
  refine ⟨fun m σ H => lpw c tb D m σ H, ⟨n, h⟩, fun m σ H w => ?_⟩
  cases m with
  | zero => exact w.elim
  | succ m =>
    refine ⟨_, w, fun b H1 q => ?_⟩
    cases b with
    | true => exact iteT ⟨_, fun σ' H' z => ⟨m, Nat.lt_succ_self _, z⟩, by simpa using q⟩
    | false => exact iteF (by simpa using q)
/-- THE READING OF STATEMENTS IS RIGHT -/
theorem tS_ok : ∀ (n : Nat) {X : Cx} {W : WX} (c : KOk g lev X N sc W) (st : Stmt), PS X st (tS g n N sc st W)
  | 0, X, W, c, st => ps_bad
  | n + 1, X, W, c, st => by
    have c0 := c.toCOk
    have ih := fun st => tS_ok n c st
    unfold tS
    split
    · exact ps_pass
    · exact ps_break
    · exact ps_continue
    · split
      · rename_i hn
        refine orBad_ok fun t q => ?_
        obtain ⟨u, hu, rfl⟩ := Option.map_eq_some_iff.mp q
        exact ps_expr (seE c0 n _ _ hu) (notComp_sw hn)
      · exact ps_bad
    · exact ps_retN
    · refine orBad_ok fun t q => ?_
      obtain ⟨u, hu, rfl⟩ := Option.map_eq_some_iff.mp q
      exact ps_ret (seE c0 n _ _ hu)
    · exact orBad_ok fun t q => tAssign_ok c q
    · refine orBad_ok fun t q => ?_
      split at q
      · rename_i e1 e2 e3 e4; cases q; exact aug_ok c e1 (.inl rfl) e2 e3 e4
      · rename_i e1 e2 e3 e4; cases q; exact aug_ok c e1 (.inr rfl) e2 e3 e4
      · cases q
    · refine orBad_ok fun t q => ?_
      split at q
      · rename_i e1 e2 e3; cases q; exact fldaug_ok c false e1 e2 e3
      · cases q
    · refine orBad_ok fun t q => ?_
      split at q
      · rename_i e1 e2 e3; cases q; exact fldaug_ok c true e1 e2 e3
      · cases q
    · split
      · rename_i e; exact ps_if (seT c0 n _ _ e) (tBody_ok ih _) (tBody_ok ih _)
      · exact ps_bad
    · split
      · rename_i e
        exact PS_imp (ps_while c.hp (PT_up (seT c0 n _ _ e)) (tBody_ok ih _)) fun D σ H q => lpw_W q
      · exact ps_bad
    · split
      · rename_i e1 e2
        obtain ⟨i1, i2⟩ := tI_ok c0 (seE c0 n) e1
        refine ps_orLock (PS_imp (ps_for c.hp c.calm (PI_up i1) (tG_ok c0 (seE c0 n) (fun x _ => c.hfn x) 12 _ _ e2) (tBody_ok ih _) (fun x => notSet_f i2)) fun D σ H q => ⟨_, q, fun J H1 q => lp_W q⟩)
      · exact ps_bad
    · exact ps_bad
end
end WR

set_option Elab.async false
set_option linter.all false
set_option maxRecDepth 100000
set_option maxHeartbeats 4000000
namespace WR
open PySem PySem.Spec PyProof.Rows L2

/-! ## defs keep the reading of their bodies -/
/-- a def of the text: its statement, all its names (parameters first), its parameters -/
structure Df where
  at_ : Str × Option Str
  name : Str
  qual : Str
  st : Stmt
  N : List Str
  P : List Str
  dfl : List He.Dv := []
  kwd : List (Str × He.Dv) := []
def Df.d (d : Df) : He.DefD := ⟨d.at_, d.name, d.qual, defArgs d.st, defBody d.st, defScope d.st, d.dfl, d.kwd⟩
/-- what a def does: its body's reading, the table g behind it -/
def wpDf (g : G) (m : Nat) (d : Df) : Sp := fun vs H Q E => vs.length = d.P.length ∧
  tBody (tS g m d.N (defScope d.st)) (defBody d.st) (fun cls dd _ H => E cls dd H) { nx := fun _ H' => Q .non H', rt := Q } (start d.N vs) H
section
variable {P : Program} {w : World} {mg : Str → Option Value} {base : Heap} {g : G} {lev : Nat}
theorem df_of {params : Arguments} {dvs : List V} {kws : List (Str × V)} {x qual : Str} {d : Df} {f : Addr} {fd : FuncData} (F : FunD g.K x qual (defArgs d.st) (defBody d.st) (defScope d.st) dvs kws f fd) (S : FnScope d.N d.P (defScope d.st)) (ok : GOk g P w mg base lev) (m : Nat) :
    FnOk P w g.K mg base (L2.CX P w) (lev + 2) f fd d.P (wpDf g m d) := by
  refine F.ok (k := lev + 1) S (fun vs H Q E h => h.1) fun cdv A outer s H vs Q E hr h => ?_
  have c : KOk g lev (cxOf (L2.CX P w) P w g.K mg base d.N qual (defScope d.st) f cdv A outer s H E) d.N (defScope d.st) (fun cls dd _ H => E cls dd H) := {
    gok := ok, hK := rfl, hN := rfl, hsc := rfl, nd := S.nd, calm := rfl, tk := takes_of rfl rfl rfl rfl, room := hr, hp := passes_of rfl, stk := rfl, fr := rfl, hfn := fun _ => rfl, kind := S.kind }
  exact ⟨_, tBody_ok (fun st => tS_ok m c st) _, h.2⟩
end

/-! ## the table at each depth -/
/-- a call pattern: the def's name, how many values are written, the keywords, the order -/
structure Cp where
  name : Str
  n : Nat
  ks : List Str
  arr : List V → List V → List V
structure Cm where
  cls : Addr
  name : Str
  n : Nat
  ks : List Str
  arr : List V → List V → List V
  df : Str
structure Ck where
  name : Str
  cls : Addr
  n : Nat
  ks : List Str
  arr : List V → List V → List V
  df : Str
structure Tb where
  K : PySem.W.Frag
  cps : List Cp
  cons : List (Str × V)
  blt : List Str
  cms : List Cm
  cks : List Ck
  ats : List (Str × List Addr)
  nes : List (Str × Addr)
/-- the table, the defs promising S -/
def gOf (t : Tb) (S : Str → Sp) : G where
  K := t.K
  fns := t.cps.map fun c => ⟨c.name, c.n, c.ks, c.arr, S c.name⟩
  cons := t.cons
  blt := t.blt
  mts := t.cms.map fun c => ⟨c.cls, c.name, c.n, c.ks, c.arr, S c.df⟩
  mks := t.cks.map fun c => ⟨c.name, c.cls, c.n, c.ks, c.arr, S c.df⟩
  ats := t.ats
  nes := t.nes
/-- the promises of all defs, n calls deep -/
def spAt (t : Tb) (m : Nat) (ds : List (Str × Df)) : Nat → Str → Sp
  | 0 => fun _ _ _ _ _ => False
  | n + 1 => fun x => match ds.lookup x with
    | some d => wpDf (gOf t (spAt t m ds n)) m d
    | none => fun _ _ _ _ => False
theorem spAt_succ {t : Tb} {m : Nat} {ds : List (Str × Df)} {n : Nat} {x : Str} {d : Df} (h : ds.lookup x = some d) : spAt t m ds (n + 1) x = wpDf (gOf t (spAt t m ds n)) m d := by
  show (match ds.lookup x with | some d => wpDf (gOf t (spAt t m ds n)) m d | none => fun _ _ _ _ => False) = _
  rw [h]

/-- a promise that is never kept is any def's -/
theorem fnOk_false {P : Program} {w : World} {K : PySem.W.Frag} {mg : Str → Option Value} {base : Heap} {k : Nat} {f : Addr} {fd : FuncData} {ps : List Str} : FnOk P w K mg base (L2.CX P w) k f fd ps (fun _ _ _ _ => False) :=
  ⟨fun _ _ _ _ h => h.elim, fun _ _ _ _ _ _ _ _ _ _ _ _ _ h => h.elim⟩

/-- what the top has written: facts that are independent of the promises. fa, fd: where each def stands -/
structure TOk (t : Tb) (ds : List (Str × Df)) (mg : Str → Option Value) (fa : Str → Addr) (fd : Str → FuncData) : Prop where
  fun_ : ∀ p ∈ ds, FnScope p.2.N p.2.P (defScope p.2.st) ∧ ∃ x qual dvs kws, FunD t.K x qual (defArgs p.2.st) (defBody p.2.st) (defScope p.2.st) dvs kws (fa p.1) (fd p.1)
  cps : ∀ c ∈ t.cps, mg c.name = some (.ref (fa c.name)) ∧ PySem.W.keepIn t.K (.ref (fa c.name)) = true ∧ ∃ d gf, ds.lookup c.name = some d ∧ KBn t.K (fd c.name) d.P c.n c.ks gf c.arr
  cons : ∀ p ∈ t.cons, ∃ u, mg p.1 = some u ∧ RelV p.2 u
  blt : ∀ x ∈ t.blt, mg x = none
  cms : ∀ m ∈ t.cms, Cls t.K m.cls ∧ Meth t.K m.cls m.name (fa m.df) ∧ ∃ d gf, ds.lookup m.df = some d ∧ KBn t.K (fd m.df) d.P (m.n + 1) m.ks gf (fun vs zs => match vs with | v :: r => v :: m.arr r zs | [] => [])
  cks : ∀ m ∈ t.cks, mg m.name = some (.ref m.cls) ∧ Mk t.K m.cls (fa m.df) ∧ ∃ d gf, ds.lookup m.df = some d ∧ KBn t.K (fd m.df) d.P (m.n + 1) m.ks gf (fun vs zs => match vs with | v :: r => v :: m.arr r zs | [] => [])
  ats : ∀ p ∈ t.ats, ∀ C ∈ p.2, Cls t.K C ∧ NoAttr t.K C p.1
  nes : ∀ p ∈ t.nes, ownB t.K p.2 = true
  nec : ∀ p ∈ t.nes, Cls t.K p.2
section
variable {P : Program} {w : World} {t : Tb} {m : Nat} {ds : List (Str × Df)} {mg : Str → Option Value} {base : Heap} {fa : Str → Addr} {fd : Str → FuncData}
theorem spAt_ok (T : TOk t ds mg fa fd) : ∀ (n : Nat) (x : Str) (d : Df), ds.lookup x = some d → FnOk P w t.K mg base (L2.CX P w) (2 * n) (fa x) (fd x) d.P (spAt t m ds n x)
  | 0, x, d, h => fnOk_false
  | n + 1, x, d, h => by
    have G : GOk (gOf t (spAt t m ds n)) P w mg base (2 * n) := by
      refine ⟨fun f hf => ?_, T.cons, T.blt, fun f hf => ?_, fun f hf => ?_, T.ats, T.nes, T.nec⟩
      · obtain ⟨c, hc, rfl⟩ := List.mem_map.mp hf
        obtain ⟨h1, h2, d', gf, h3, h4⟩ := T.cps c hc
        exact ⟨fa c.name, fd c.name, d'.P, gf, h1, h2, spAt_ok T n _ _ h3, h4⟩
      · obtain ⟨c, hc, rfl⟩ := List.mem_map.mp hf
        obtain ⟨h1, h2, d', gf, h3, h4⟩ := T.cms c hc
        exact ⟨fa c.df, fd c.df, d'.P, gf, h1, h2, spAt_ok T n _ _ h3, h4⟩
      · obtain ⟨c, hc, rfl⟩ := List.mem_map.mp hf
        obtain ⟨h1, h2, d', gf, h3, h4⟩ := T.cks c hc
        exact ⟨fa c.df, fd c.df, d'.P, gf, h1, h2, spAt_ok T n _ _ h3, h4⟩
    rw [spAt_succ h]
    obtain ⟨S, _, _, _, _, F⟩ := T.fun_ (x, d) (PySem.mem_of_lookup h)
    exact df_of (params := defArgs d.st) F S G m
end
end WR

set_option Elab.async false
set_option linter.all false
set_option maxRecDepth 100000
set_option maxHeartbeats 4000000
namespace WR
open PySem PySem.Spec PyProof.Rows L2

/-! ## the text in symbols: no address -/
structure Ym where   -- a method's call pattern
  cls : Str
  name : Str
  n : Nat
  ks : List Str := []
  arr : List V → List V → List V := fun vs _ => vs
structure Sy where
  ds : List (Str × Df)
  cps : List Cp
  nums : List (Str × Int) := []
  txts : List (Str × Str) := []
  blt : List Str := []
  cms : List Ym := []
  cks : List Ym := []     -- name unused: __init__
  cls : List Str := []
  ats : List (Str × List Str) := []
  nes : List Str := []
  ex : PySem.W.Frag → Bool := fun _ => true
def mkey (c m : Str) : Str := c ++ "." ++ m
def Sy.tb (y : Sy) (K : PySem.W.Frag) : Tb where
  K := K
  cps := y.cps
  cons := y.nums.map (fun p => (p.1, V.int p.2)) ++ y.txts.map (fun p => (p.1, V.str p.2)) ++ y.cls.map (fun c => (c, V.ref (He.ga K c)))
  blt := y.blt
  cms := y.cms.map fun m => ⟨He.ga K m.cls, m.name, m.n, m.ks, m.arr, mkey m.cls m.name⟩
  cks := y.cks.map fun m => ⟨m.cls, He.ga K m.cls, m.n, m.ks, m.arr, mkey m.cls "__init__"⟩
  ats := y.ats.map fun p => (p.1, p.2.map (He.ga K))
  nes := y.nes.map fun c => (c, He.ga K c)
/-- what is asked of the written part beyond the facts -/
def Sy.exB (y : Sy) (K : PySem.W.Frag) : Bool := (y.nes.all fun c => ownB K (He.ga K c)) && y.ex K
def Sy.fa (y : Sy) : List He.Fa :=
  y.cps.map (fun c => .glo c.name) ++ (y.cls.map (fun c => .glo c) ++ (y.blt.map (fun x => .free x) ++ (y.nums.map (fun p => .int p.1 p.2) ++ (y.txts.map (fun p => .str p.1 p.2) ++
  (y.cls.map (fun c => .cls c) ++ (y.cms.map (fun m => .meth m.cls m.name) ++ (y.cks.map (fun m => .mkr m.cls) ++ y.ats.flatMap fun p => p.2.map fun c => .noat c p.1)))))))
def Sy.fn (y : Sy) : List He.DefD := y.ds.map fun p => p.2.d
/-- a call pattern binds as it is told -/
def Kb (d : Df) (n : Nat) (ks : List Str) (arr : List V → List V → List V) : Prop :=
  ∀ K f fd, FunD K d.name d.qual (defArgs d.st) (defBody d.st) (defScope d.st) (d.d.dvs K) (d.d.kws K) f fd → ∃ gf, KBn K fd d.P n ks gf arr
def scB (d : Df) : Bool := decide ((defScope d.st).kind = .function) && (!(defScope d.st).isCoroutine && (!(defScope d.st).isGenerator && (decide d.N.Nodup && (decide (d.N.take d.P.length = d.P) &&
  (d.P.all (fun x => decide ((defScope d.st).names.lookup x = some .local ∨ (defScope d.st).names.lookup x = some .cell)) && (defScope d.st).names.all fun y => decide (y.2 ≠ .free))))))
theorem scB_ok {d : Df} (h : scB d = true) : FnScope d.N d.P (defScope d.st) := by
  unfold scB at h
  simp only [Bool.and_eq_true, Bool.not_eq_true', decide_eq_true_eq, List.all_eq_true] at h
  obtain ⟨h1, h2, h3, h4, h5, h6, h7⟩ := h
  exact ⟨h1, h2, h3, h4, h5, h6, h7⟩
structure SyOk (y : Sy) : Prop where
  sc : (y.ds.all fun p => scB p.2) = true
  cps : ∀ c ∈ y.cps, ∃ d, y.ds.lookup c.name = some d ∧ d.at_ = (c.name, none) ∧ Kb d c.n c.ks c.arr
  cms : ∀ m ∈ y.cms, m.cls ∈ y.cls ∧ ∃ d, y.ds.lookup (mkey m.cls m.name) = some d ∧ d.at_ = (m.cls, some m.name) ∧ Kb d (m.n + 1) m.ks (fun vs zs => match vs with | v :: r => v :: m.arr r zs | [] => [])
  cks : ∀ m ∈ y.cks, m.cls ∈ y.cls ∧ ∃ d, y.ds.lookup (mkey m.cls "__init__") = some d ∧ d.at_ = (m.cls, some ("__init__" : Str)) ∧ Kb d (m.n + 1) m.ks (fun vs zs => match vs with | v :: r => v :: m.arr r zs | [] => [])
  ats : ∀ p ∈ y.ats, ∀ c ∈ p.2, c ∈ y.cls
  nes : ∀ c ∈ y.nes, c ∈ y.cls

/-! ### binding -/
section
variable {d : Df} {n : Nat} {ks : List Str} {arr arr' : List V → List V → List V}
theorem Kb.congr (h : Kb d n ks arr) (e : ∀ vs zs, arr' vs zs = arr vs zs) : Kb d n ks arr' := fun K f fd F => by
  obtain ⟨gf, k⟩ := h K f fd F
  have : arr' = arr := funext fun vs => funext fun zs => e vs zs
  exact ⟨gf, this ▸ k⟩
/-- every parameter written, no defaults -/
theorem kb_plain (hd : d.dfl = []) (h : ∀ (kV doc pm : Value) (an : Option Addr) (cdv ct : Value) (us : List Value), us.length = d.P.length → bindArgs (PySem.W.fnOf d.name d.qual (defArgs d.st) (defBody d.st) (defScope d.st) .none kV doc pm an cdv ct) ⟨us, []⟩ = pure (d.P.zip us)) :
    Kb d d.P.length [] (fun vs _ => vs) := fun K f fd F => by
  have F' : FunD K d.name d.qual (defArgs d.st) (defBody d.st) (defScope d.st) [] (d.d.kws K) f fd := by
    have : d.d.dvs K = [] := by unfold He.DefD.dvs Df.d; rw [hd]; rfl
    rw [this] at F; exact F
  exact ⟨fun us _ => us, ⟨fun s us ws X l1 l2 => F'.bindsA h s us l1, fun r1 r2 => r1⟩⟩
theorem kb_plainM (hd : d.dfl = []) (hp : d.P.length = n + 1) (h : ∀ (kV doc pm : Value) (an : Option Addr) (cdv ct : Value) (us : List Value), us.length = d.P.length → bindArgs (PySem.W.fnOf d.name d.qual (defArgs d.st) (defBody d.st) (defScope d.st) .none kV doc pm an cdv ct) ⟨us, []⟩ = pure (d.P.zip us)) :
    Kb d (n + 1) [] (fun vs zs => match vs with | v :: r => v :: (fun vs _ => vs) r zs | [] => []) := by
  have k := kb_plain hd h
  rw [hp] at k
  exact k.congr fun vs zs => by cases vs <;> rfl
/-- positional defaults: the first j of all are written over -/
theorem kb_dfl (m j : Nat) (dvs : List V) (hv : ∀ K, d.d.dvs K = dvs) (hne : dvs ≠ []) (hn : m + (dvs.length - j) = d.P.length)
    (h : ∀ (T : Addr) (kV doc pm : Value) (an : Option Addr) (cdv ct : Value) (us its : List Value), us.length = m → its.length = dvs.length →
      ∃ k, bindArgs (PySem.W.fnOf d.name d.qual (defArgs d.st) (defBody d.st) (defScope d.st) (.ref T) kV doc pm an cdv ct) ⟨us, []⟩ = seqItems? (.ref T) >>= k ∧ k (some its.toArray) = pure (d.P.zip (us ++ its.drop j))) :
    Kb d m [] (fun vs _ => vs ++ dvs.drop j) := fun K f fd F => by
  rw [hv K] at F
  obtain ⟨ds, r, b⟩ := F.binds1 m j hne hn h
  refine ⟨fun us _ => us ++ ds, ⟨fun s us ws X l1 l2 => ?_, fun r1 r2 => r1.append r⟩⟩
  exact b s us X (by rw [List.length_append, l1, ← r.length, List.length_drop, hn])
end

/-! ### the table of a written part -/
/-- where the def of a key stands -/
def Sy.ad (y : Sy) (K : PySem.W.Frag) (x : Str) : Addr := match y.ds.lookup x with
  | some d => He.fAd K d.at_
  | none => 0
theorem Sy.ad_of {y : Sy} {K : PySem.W.Frag} {x : Str} {d : Df} (h : y.ds.lookup x = some d) : y.ad K x = He.fAd K d.at_ := by
  unfold Sy.ad; rw [h]
section
variable {y : Sy} {K : PySem.W.Frag} {h : Heap} {mg : Str → Option Value}
theorem sy_tok (O : SyOk y) (X : K.In h) (G : h.Ns mainGlobals mg) (c : He.SaysD y.fa y.fn K) (nd : (y.ds.map (·.1)).Nodup) (he : y.exB K = true) : ∃ fd : Str → FuncData, TOk (y.tb K) y.ds mg (y.ad K) fd ∧ ∀ p ∈ y.ds, FunD K p.2.name p.2.qual (defArgs p.2.st) (defBody p.2.st) (defScope p.2.st) (p.2.d.dvs K) (p.2.d.kws K) (y.ad K p.1) (fd p.1) := by
  have hf : ∀ x : Str, ∃ fd : FuncData, ∀ d, y.ds.lookup x = some d → FunD K d.name d.qual (defArgs d.st) (defBody d.st) (defScope d.st) (d.d.dvs K) (d.d.kws K) (y.ad K x) fd := fun x => by
    cases e : y.ds.lookup x with
    | none => exact ⟨default, fun d z => nomatch z⟩
    | some d =>
      obtain ⟨fd, F⟩ := c.defs (d := d.d) (List.mem_map.mpr ⟨(x, d), PySem.mem_of_lookup e, rfl⟩)
      refine ⟨fd, fun d' z => ?_⟩
      cases z
      rw [Sy.ad_of e]
      exact F
  have lk : ∀ p ∈ y.ds, y.ds.lookup p.1 = some p.2 := fun p hp => by
    have aux : ∀ l : List (Str × Df), (l.map (·.1)).Nodup → p ∈ l → l.lookup p.1 = some p.2 := by
      intro l
      induction l with
      | nil => intro _ h; cases h
      | cons q r ih =>
        intro hn hm
        rw [List.map_cons, List.nodup_cons] at hn
        obtain ⟨q1, q2⟩ := q
        rcases List.mem_cons.mp hm with e | hm
        · subst e; simp [List.lookup]
        · have ne : p.1 ≠ q1 := fun z => hn.1 (List.mem_map.mpr ⟨p, hm, z⟩)
          have e : (p.1 == q1) = false := by simpa using ne
          simp only [List.lookup, e]
          exact ih hn.2 hm
    exact aux _ nd hp
  refine ⟨fun x => Classical.choose (hf x), ?_, fun p hp => Classical.choose_spec (hf p.1) _ (lk p hp)⟩
  have F : ∀ x d, y.ds.lookup x = some d → FunD K d.name d.qual (defArgs d.st) (defBody d.st) (defScope d.st) (d.d.dvs K) (d.d.kws K) (y.ad K x) (Classical.choose (hf x)) := fun x d e => Classical.choose_spec (hf x) d e
  have mem : ∀ f, f ∈ y.fa → f.ok K = true := fun f hm => c.facts hm
  have cglo : ∀ c ∈ y.cls, mg c = some (.ref (He.ga K c)) := fun c hc => He.glo_ok X G (mem _ (by
    unfold Sy.fa; exact List.mem_append_right _ (List.mem_append_left _ (List.mem_map.mpr ⟨c, hc, rfl⟩))))
  have cC : ∀ c ∈ y.cls, Cls K (He.ga K c) := fun c hc => He.cls_ok (mem _ (by
    unfold Sy.fa; exact List.mem_append_right _ (List.mem_append_right _ (List.mem_append_right _ (List.mem_append_right _ (List.mem_append_right _ (List.mem_append_left _ (List.mem_map.mpr ⟨c, hc, rfl⟩)))))))) 
  refine ⟨fun p hp => ⟨scB_ok (List.all_eq_true.mp O.sc p hp), _, _, _, _, F _ _ (lk p hp)⟩, fun c hc => ?_, fun p hp => ?_, fun x hx => ?_, fun m hm => ?_, fun m hm => ?_, fun p hp C hC => ?_, fun p hp => ?_, fun p hp => ?_⟩
  · obtain ⟨d, e1, e2, e3⟩ := O.cps c hc
    have g1 := He.glo_ok X G (x := c.name) (mem _ (by unfold Sy.fa; exact List.mem_append_left _ (List.mem_map.mpr ⟨c, hc, rfl⟩)))
    have ea : y.ad K c.name = He.ga K c.name := by rw [Sy.ad_of e1, e2]; rfl
    refine ⟨by rw [ea]; exact g1, (F _ _ e1).kp, d, ?_⟩
    obtain ⟨gf, k⟩ := e3 K _ _ (F _ _ e1)
    exact ⟨gf, e1, k⟩
  · rcases List.mem_append.mp hp with hp | hp
    · rcases List.mem_append.mp hp with hp | hp
      · obtain ⟨q, hq, rfl⟩ := List.mem_map.mp hp
        obtain ⟨t, e⟩ := He.int_ok X G (x := q.1) (i := q.2) (mem _ (by
          unfold Sy.fa; exact List.mem_append_right _ (List.mem_append_right _ (List.mem_append_right _ (List.mem_append_left _ (List.mem_map.mpr ⟨q, hq, rfl⟩))))))
        exact ⟨_, e, ⟨t, rfl⟩⟩
      · obtain ⟨q, hq, rfl⟩ := List.mem_map.mp hp
        obtain ⟨t, e⟩ := He.str_ok X G (x := q.1) (z := q.2) (mem _ (by
          unfold Sy.fa; exact List.mem_append_right _ (List.mem_append_right _ (List.mem_append_right _ (List.mem_append_right _ (List.mem_append_left _ (List.mem_map.mpr ⟨q, hq, rfl⟩)))))))
        exact ⟨_, e, ⟨t, rfl⟩⟩
    · obtain ⟨q, hq, rfl⟩ := List.mem_map.mp hp
      exact ⟨_, cglo q hq, rfl⟩
  · exact He.free_ok X G (mem _ (by unfold Sy.fa; exact List.mem_append_right _ (List.mem_append_right _ (List.mem_append_left _ (List.mem_map.mpr ⟨x, hx, rfl⟩)))))
  · obtain ⟨q, hq, rfl⟩ := List.mem_map.mp hm
    obtain ⟨hc, d, e1, e2, e3⟩ := O.cms q hq
    have g1 := He.meth_ok (x := q.cls) (m := q.name) (mem _ (by
      unfold Sy.fa; exact List.mem_append_right _ (List.mem_append_right _ (List.mem_append_right _ (List.mem_append_right _ (List.mem_append_right _ (List.mem_append_right _ (List.mem_append_left _ (List.mem_map.mpr ⟨q, hq, rfl⟩)))))))))
    have ea : y.ad K (mkey q.cls q.name) = He.ma K (He.ga K q.cls) q.name := by rw [Sy.ad_of e1, e2]; rfl
    obtain ⟨gf, k⟩ := e3 K _ _ (F _ _ e1)
    refine ⟨cC _ hc, ?_, d, gf, e1, k⟩
    show Meth K _ _ (y.ad K (mkey q.cls q.name))
    rw [ea]; exact g1
  · obtain ⟨q, hq, rfl⟩ := List.mem_map.mp hm
    obtain ⟨hc, d, e1, e2, e3⟩ := O.cks q hq
    have g1 := He.mkr_ok (x := q.cls) (mem _ (by
      unfold Sy.fa; exact List.mem_append_right _ (List.mem_append_right _ (List.mem_append_right _ (List.mem_append_right _ (List.mem_append_right _ (List.mem_append_right _ (List.mem_append_right _ (List.mem_append_left _ (List.mem_map.mpr ⟨q, hq, rfl⟩))))))))))
    have ea : y.ad K (mkey q.cls "__init__") = He.ma K (He.ga K q.cls) "__init__" := by rw [Sy.ad_of e1, e2]; rfl
    obtain ⟨gf, k⟩ := e3 K _ _ (F _ _ e1)
    refine ⟨cglo _ hc, ?_, d, gf, e1, k⟩
    show Mk K _ (y.ad K (mkey q.cls "__init__"))
    rw [ea]; exact g1
  · obtain ⟨q, hq, rfl⟩ := List.mem_map.mp hp
    obtain ⟨c', hc', rfl⟩ := List.mem_map.mp hC
    exact ⟨cC _ (O.ats q hq c' hc'), He.noat_ok (mem _ (by
      unfold Sy.fa; exact List.mem_append_right _ (List.mem_append_right _ (List.mem_append_right _ (List.mem_append_right _ (List.mem_append_right _ (List.mem_append_right _ (List.mem_append_right _ (List.mem_append_right _ (List.mem_flatMap.mpr ⟨q, hq, List.mem_map.mpr ⟨c', hc', rfl⟩⟩)))))))))
      )⟩
  · obtain ⟨q, hq, rfl⟩ := List.mem_map.mp hp
    exact List.all_eq_true.mp (Bool.and_eq_true_iff.mp he).1 q hq
  · obtain ⟨q, hq, rfl⟩ := List.mem_map.mp hp
    exact cC q (O.nes q hq)
end

/-! ### the law's end -/
def isLst (o : Obj) : Bool := match o.cls with
  | .type c => c == "list"
  | _ => false
/-- the written part without its lists: so the script is never an object of it -/
def frZ (g : Addr → Option Obj) (as : List Addr) : PySem.W.Frag := (He.frT g as).filter fun q => !isLst q.2
theorem frZ_mem {g : Addr → Option Obj} {as : List Addr} {a : Addr} {o : Obj} (h : (frZ g as).lookup a = some o) : g a = some o ∧ isLst o = false := by
  have m := List.mem_filter.mp (He.lookup_mem h)
  exact ⟨He.frG_mem (List.mem_filter.mp m.1).1, by simpa using m.2⟩
def obsZ (n : Nat) (fa : List He.Fa) (fn : List He.DefD) (ex : PySem.W.Frag → Bool) (g : Addr → Option Obj) : He.AlD × Bool := (He.obsD fa fn (frZ g (He.asD g n)), ex (frZ g (He.asD g n)))
def hkY (y : Sy) : PySem.W.Hook where
  α := He.AlD × Bool
  obs := fun s => obsZ 5 y.fa y.fn y.exB s.heap.get?
  val := fun _ => (He.valD y.fn, true)
  says := fun _ h => ∃ K : PySem.W.Frag, K.In h ∧ He.SaysD y.fa y.fn K ∧ y.exB K = true ∧ ∀ a o, K.lookup a = some o → isLst o = false
  of := fun _ _ e => ⟨_, fun _ _ e => (frZ_mem e).1, congrArg (fun z : He.AlD × Bool => z.1) e, congrArg (fun z : He.AlD × Bool => z.2) e, fun _ _ e => (frZ_mem e).2⟩
  keeps := fun _ _ _ ⟨K, hK, c⟩ k => ⟨K, PySem.W.Frag.In.keeps hK k, c⟩
def obY (y : Sy) (s : PySem.W.SharedT) : He.AlD × Bool := obsZ 5 y.fa y.fn y.exB (HandSHeadRun.getT s)
theorem obY_eq (y : Sy) (s : PySem.W.SharedT) : obY y s = (hkY y).obs s.abs := by
  have e : HandSHeadRun.getT s = s.abs.heap.get? := funext (HandSHeadRun.getT_eq s)
  show obsZ 5 y.fa y.fn y.exB (HandSHeadRun.getT s) = obsZ 5 y.fa y.fn y.exB s.abs.heap.get?
  rw [e]
/-- the promise of law, n calls deep, at scripts of at most 63 numbers -/
def LawY (y : Sy) (m n : Nat) : Prop := ∀ (K : PySem.W.Frag), y.ex K = true → ∀ (H : Hp) (a : Addr) (ns : List Int), ns.length ≤ 63 → Only H → (∃ o, H a = some (.frz o (.lst (ns.map V.int)))) →
  spAt (y.tb K) m y.ds n "law" [.ref a] H (fun v _ => v = .bl true) fun _ _ _ => False
theorem abs_ints : ∀ {us : List Value} {ns : List Int}, Vals (ns.map V.int) us → absVs us = some (ns.map V.int)
  | [], ns, r => by
    cases ns with
    | nil => rfl
    | cons n ns => cases r
  | u :: us, ns, r => by
    cases ns with
    | nil => cases r
    | cons n ns =>
      cases r with
      | cons h t =>
        obtain ⟨tk, rfl⟩ := h
        unfold absVs
        rw [abs_ints t]
        rfl
theorem walkY {l : PySem.W.OpenLaw} {q : Program} {loose : List Str} {XP : (Str → Option Value) → Heap → Prop} {dr : DefRec} (y : Sy) (m n : Nat) (dl : Df) (O : SyOk y) (nd : (y.ds.map (·.1)).Nodup) (hl : y.ds.lookup ("law" : Str) = some dl) (hP : dl.P = [("script" : Str)]) (hdl : dl.dfl = [])
    (hat : dl.at_ = (("law" : Str), none)) (hcl : ∃ c ∈ y.cps, c.name = ("law" : Str))
    (hb : ∀ (kV doc pm : Value) (an : Option Addr) (cdv ct : Value) (us : List Value), us.length = dl.P.length → bindArgs (PySem.W.fnOf dl.name dl.qual (defArgs dl.st) (defBody dl.st) (defScope dl.st) .none kV doc pm an cdv ct) ⟨us, []⟩ = pure (dl.P.zip us))
    (hn : l.most = some 63) (hdf : dr.params.defaults = []) (hnm : dr.name = ("law" : Str)) (hr : Room (2 * n) callerA) (law : LawY y m n) :
    PySem.W.WalkO q loose XP (hkY y).says l.row.toRowW dr [] (fun f vs => PySem.call f vs) := by
  refine Att.attach_call hn hdf fun w s₀ s₁ mg mb fa o pm cd doc a vs ns G Y ho hd hcd hmg hobj hints hlen hg => ?_
  obtain ⟨K, KX, c⟩ := Y
  rw [hnm] at hmg
  obtain ⟨fd, T, F⟩ := sy_tok O KX G.T.g c.1 nd c.2.1
  have Fl := F ("law", dl) (PySem.mem_of_lookup hl)
  have ea : y.ad K "law" = fa := by
    obtain ⟨cc, hc, e⟩ := hcl
    have e1 := (T.cps cc hc).1
    rw [e, hmg] at e1
    cases e1; rfl
  have Fl' : FunD K dl.name dl.qual (defArgs dl.st) (defBody dl.st) (defScope dl.st) [] (dl.d.kws K) (y.ad K "law") (fd "law") := by
    have : dl.d.dvs K = [] := by unfold He.DefD.dvs Df.d; rw [hdl]; rfl
    rw [this] at Fl; exact Fl
  have hF : ∀ base : Heap, K.In base → base.Ns mainGlobals mg → FnOk l.prog w K mg base (L2.CX l.prog w) (2 * n) fa (fd "law") ["script"] (spAt (y.tb K) m y.ds n "law") := fun base _ _ => by
    have z := spAt_ok (P := l.prog) (w := w) (base := base) (m := m) T n "law" dl hl
    rw [ea, hP] at z
    exact z
  refine law_call (CX := L2.CX l.prog w) KX G.T.g G.T.b G.T.builtins G.T.nolimit hg hobj hints (Nat.le_trans hlen (by decide)) hr hF (fun s u => ?_) (fun H hO hS => law K (Bool.and_eq_true_iff.mp c.2.1).2 H a ns hlen hO ?_) fun H e s' z => ?_
  · have b := Fl'.bindsA (ps := dl.P) hb s [u] (by rw [hP]; rfl)
    rw [hP] at b
    exact b
  · rcases hS with hS | ⟨o, its, n', lk, hc, _⟩
    · rcases hS with e | ⟨o, e⟩
      · rcases hO a with z | ⟨o, xs, z⟩ <;> rw [e] at z <;> cases z
      · exact ⟨o, e⟩
    · have := c.2.2 a o lk
      unfold isLst at this
      rw [hc] at this
      cases this
  · obtain ⟨_, _, _, _, _, _, _, _, _, _, _, _, z⟩ := z
    exact z
end WR

set_option Elab.async false
set_option linter.all false
set_option maxRecDepth 100000
set_option maxHeartbeats 4000000
namespace WR
open PySem PySem.Spec PyProof.Rows L2
/-! ## shorthands of the printed readings -/
def mf (g : G) (m : Str) (n : Nat) (ks : List Str) : List MtI := g.mts.filter fun i => decide (i.name = m) && decide (i.n = n) && decide (i.ks = ks)
def bf (K : PySem.W.Frag) (m : Str) : List BM := (bms K).filter fun b => decide (b.name = m)
def mC (g : G) (m : Str) (n nk : Nat) (ks : List Str) (ta : TE) (t tk : TA) (W : WX) : TE := cMeth g.K m n nk (mf g m n ks) (bf g.K m) ta t tk W
def orL (t : TS) : TS := fun D σ H => t D σ H ∨ tLock t D σ H
def joinT (ts : List TE) : TE := fun σ H Q => cJs ts Str.empty σ H fun out H1 => Q (.str out) H1
/-- a method of an own class, one candidate -/
theorem mC_own {g : G} {m : Str} {n nk : Nat} {ks : List Str} {ta : TE} {t tk : TA} {W : WX} {c : MtI} {σ : St} {H : Hp} {Q : VK} (hm : mf g m n ks = [c])
    (h : ta σ H fun x H1 => ∃ p dx fs, x = .ref p ∧ H1 p = some (.ins c.cls dx fs) ∧ fs.lookup m = none ∧ t σ H1 fun vs H2 => tk σ H2 fun zs H3 => vs.length = n ∧ zs.length = nk ∧ c.sp (.ref p :: c.arr vs zs) H3 Q (fun cls d H' => W cls d σ H'))
    (mono : ∀ P P' : V → Hp → Prop, (∀ x H, P x H → P' x H) → ta σ H P → ta σ H P') : mC g m n nk ks ta t tk W σ H Q := by
  unfold mC cMeth
  rw [hm]
  refine mono _ _ (fun x H1 q => ?_) h
  obtain ⟨p, dx, fs, rfl, e, l, q⟩ := q
  simp only [insOf, e, l, List.mem_singleton, exists_eq_left, true_and]
  exact q
/-- a built-in's method -/
theorem mC_blt {g : G} {m : Str} {n : Nat} {ks : List Str} {ta : TE} {t tk : TA} {W : WX} {σ : St} {H : Hp} {Q : VK}
    (h : ta σ H fun x H1 => insOf H1 x = none ∧ ∃ T, tyB g.K H1 x = some T ∧ ∃ b, (bf g.K m).find? (fun b => b.T == T) = some b ∧ t σ H1 fun vs H2 => b.r x vs H2 Q)
    (mono : ∀ P P' : V → Hp → Prop, (∀ x H, P x H → P' x H) → ta σ H P → ta σ H P') : mC g m n 0 ks ta t tk W σ H Q := by
  unfold mC cMeth
  refine mono _ _ (fun x H1 q => ?_) h
  obtain ⟨h1, T, h2, b, h3, q⟩ := q
  simp only [h1, h2, h3, true_and]
  exact q
theorem mono_var {i : Nat} {σ : St} {H : Hp} {P P' : V → Hp → Prop} (h : ∀ x H, P x H → P' x H) (q : cVar i σ H P) : cVar i σ H P' := by
  unfold cVar at q ⊢
  split at q
  · exact h _ _ q
  · exact q.elim
theorem mono_C {v : V} {σ : St} {H : Hp} {P P' : V → Hp → Prop} (h : ∀ x H, P x H → P' x H) (q : tC v σ H P) : tC v σ H P' := h _ _ q
/-- own specials, one candidate -/
theorem spc_one {g : G} {m : Str} {C : Addr} {x : V} {vs : List V} {H : Hp} {Q : VK} {c : MtI} (hm : cands g m vs.length = [c]) (hc : c.cls = C) (h : c.sp (x :: c.arr vs []) H Q (fun _ _ _ => False)) : spc g m C x vs H Q :=
  ⟨c, by rw [hm]; exact List.mem_singleton_self _, hc, h⟩
end WR

set_option Elab.async false
set_option linter.all false
set_option maxRecDepth 100000
set_option maxHeartbeats 4000000
namespace WR
open PySem PySem.Spec PyProof.Rows L2
/-! ## rules for walking the readings -/
section
variable {K : PySem.W.Frag} {H : Hp} {a : Addr} {xs : List V} {x y : V} {Q : VK} {g : G}
theorem ins_look {u : HO} (h : look K H a = some u) (hu : ∀ C dx fs, u ≠ .ins C dx fs) : insOf H (.ref a) = none := by
  unfold look at h
  cases e : H a with
  | none => simp only [insOf, e]
  | some o =>
    rw [e] at h
    cases o <;> simp only [insOf, e]
    cases h
    exact absurd rfl (hu _ _ _)
theorem ins_lst (h : look K H a = some (.lst xs)) : insOf H (.ref a) = none := ins_look h fun _ _ _ z => nomatch z
theorem ins_tup (h : look K H a = some (.tup xs)) : insOf H (.ref a) = none := ins_look h fun _ _ _ z => nomatch z
theorem ins_dK {kvs : List (Key × V)} (h : look K H a = some (.dK kvs)) : insOf H (.ref a) = none := ins_look h fun _ _ _ z => nomatch z
theorem ins_int {i : Int} : insOf H (.int i) = none := rfl
theorem ins_str {i : Str} : insOf H (.str i) = none := rfl
theorem ins_non : insOf H .non = none := rfl
theorem ins_bl {b : Bool} : insOf H (.bl b) = none := rfl
theorem ins_ins {C dx : Addr} {fs : List (Str × V)} (h : H a = some (.ins C dx fs)) : insOf H (.ref a) = some (a, C, fs) := by simp only [insOf, h]
theorem ty_lst (h : look K H a = some (.lst xs)) : tyN K H (.ref a) = some "list" := by simp only [tyN, h]
theorem ty_tup (h : look K H a = some (.tup xs)) : tyN K H (.ref a) = some "tuple" := by simp only [tyN, h]
theorem ty_dK {kvs : List (Key × V)} (h : look K H a = some (.dK kvs)) : tyN K H (.ref a) = some "dict" := by simp only [tyN, h]
theorem ty_ins {x : V} {n : String} (h : tyN K H x = some n) : insOf H x = none := by
  cases x with
  | ref p =>
    cases e : H p with
    | none => simp only [insOf, e]
    | some o =>
      cases o <;> simp only [insOf, e]
      simp [tyN, look, e] at h
  | _ => rfl
/-! ### len, isinstance, subscripts -/
theorem len_lst (hg : g.K = K) (h : look K H a = some (.lst xs)) : bLenG g [.ref a] H Q = Q (.int xs.length) H := by
  unfold bLenG; simp only [ins_lst h]; unfold bLen; rw [hg]; simp only [h]
theorem len_tup (hg : g.K = K) (h : look K H a = some (.tup xs)) : bLenG g [.ref a] H Q = Q (.int xs.length) H := by
  unfold bLenG; simp only [ins_tup h]; unfold bLen; rw [hg]; simp only [h]
theorem len_dK {kvs : List (Key × V)} (hg : g.K = K) (h : H a = some (.dK kvs)) : bLenG g [.ref a] H Q = Q (.int kvs.length) H := by
  have e : look K H a = some (.dK kvs) := look_of_dK h
  unfold bLenG; simp only [ins_dK e]; unfold bLen; rw [hg]; simp only [e, h]
theorem len_str {s : Str} : bLenG g [.str s] H Q = (s.length ≤ sizeLine ∧ Q (.int s.length) H) := rfl
theorem isi_ty {n T : String} {b : Bool} (h : tyN K H x = some n) (e : kitB n T = some b) : bIsi K [x, .ty T] H Q = Q (.bl b) H := by
  simp only [bIsi, h, e]
theorem ix_lst {i : Int} {v : V} (h : look K H a = some (.lst xs)) (e : atI xs i = some v) : oIx K (.ref a) (.int i) H Q = Q v H := by simp only [oIx, h, e]
theorem ix_tup {i : Int} {v : V} (h : look K H a = some (.tup xs)) (e : atI xs i = some v) : oIx K (.ref a) (.int i) H Q = Q v H := by simp only [oIx, h, e]
theorem ix_dK {kvs : List (Key × V)} {k : Key} {v : V} (h : H a = some (.dK kvs) ∨ ∃ o, H a = some (.frz o (.dK kvs))) : (.some v = valV kvs k) → oIx K (.ref a) (kV k) H Q = Q v H := fun ev => by
  have e : look K H a = some (.dK kvs) := by
    rcases h with h | ⟨o, h⟩
    · exact look_of_dK h
    · unfold look; rw [h]
  simp only [oIx, e, oGet]
  rcases h with h | ⟨o, h⟩ <;> simp only [h] <;> cases k <;> simp only [kV, keyOf, ← ev]
theorem in_dK {kvs : List (Key × V)} {k : Key} {b : Bool} (h : H a = some (.dK kvs) ∨ ∃ o, H a = some (.frz o (.dK kvs))) : oIn K b (kV k) (.ref a) H Q = Q (.bl (b ^^ (valV kvs k).isSome)) H := by
  have e : look K H a = some (.dK kvs) := by
    rcases h with h | ⟨o, h⟩
    · exact look_of_dK h
    · unfold look; rw [h]
  simp only [oIn, e, oGet]
  rcases h with h | ⟨o, h⟩ <;> simp only [h] <;> cases k <;> rfl
theorem eq_scal (hg : g.K = K) (h1 : insOf H x = none) (h2 : scal x y = true) (h : Q (.bl (decide (x = y))) H) : oEqG g x y H Q := by
  unfold oEqG; simp only [h1]; exact .inl (.inl ⟨h2, h⟩)
theorem ne_scal (hg : g.K = K) (h1 : insOf H x = none) (h2 : scal x y = true) (h : Q (.bl (!decide (x = y))) H) : oNeG g x y H Q := by
  unfold oNeG; simp only [h1]; exact .inl (.inl ⟨h2, h⟩)
theorem atI_nat {α : Type} {xs : List α} {k : Nat} : atI xs (k : Int) = xs[k]? := by
  unfold atI ixN
  by_cases h : k < xs.length
  · simp [h]
  · simp [h]
end
/-! ### loops by an invariant -/
theorem lp_inv {J : It} {g : TG} {tb : TS} {D : Ends} {n : Nat} (P : Nat → St → Hp → Prop)
    (hstop : ∀ σ H, P n σ H → J.stop n H ∧ D.nx σ H)
    (hgo : ∀ i σ H, i < n → P i σ H → ∀ R : St → Hp → Prop, (∀ σ' H', P (i + 1) σ' H' → R σ' H') → J.go i H ∧ ∀ x H', J.yld i H x H' → g x σ H' fun σ2 H2 => tb { D with nx := R, ct := R, bk := D.nx } σ2 H2)
    {σ : St} {H : Hp} (h : P 0 σ H) : ∃ m, lp J g tb D m 0 σ H := by
  have key : ∀ m i σ H, m + i = n → P i σ H → lp J g tb D m i σ H := by
    intro m
    induction m with
    | zero =>
      intro i σ H hm p
      have : i = n := by omega
      subst this
      exact hstop _ _ p
    | succ m ih =>
      intro i σ H hm p
      exact .inr (hgo i σ H (by omega) p _ fun σ' H' q => ih (i + 1) σ' H' (by omega) q)
  exact ⟨n, key n 0 σ H (by omega) h⟩
theorem lpc_inv {J : It} {g : TG} {tt : TT} {te : TE} {vs : List Nat} {σ : St} {D : Addr} {Q : VK} {n : Nat} (P : Nat → Hp → Prop)
    (hstop : ∀ H, P n H → J.stop n H ∧ Q (.ref D) H)
    (hgo : ∀ i H, i < n → P i H → ∀ R : Hp → Prop, (∀ H', P (i + 1) H' → R H') → J.go i H ∧ ∀ x H', J.yld i H x H' → g x (wipe σ vs) H' fun σ2 H2 => wipe σ2 vs = wipe σ vs ∧ tt σ2 H2 fun b H3 =>
      if b = true then te σ2 H3 fun y H4 => ∃ acc, H4 D = some (.lst acc) ∧ acc.length < sizeLine ∧ R (upd H4 D (.lst (acc ++ [y]))) else R H3)
    {H : Hp} (h : P 0 H) : ∃ m, lpc J g tt te vs σ D Q m 0 H := by
  have key : ∀ m i H, m + i = n → P i H → lpc J g tt te vs σ D Q m i H := by
    intro m
    induction m with
    | zero =>
      intro i H hm p
      have : i = n := by omega
      subst this
      exact hstop _ p
    | succ m ih =>
      intro i H hm p
      exact .inr (hgo i H (by omega) p _ fun H' q => ih (i + 1) H' (by omega) q)
  exact ⟨n, key n 0 H (by omega) h⟩
theorem lpd_inv {J : It} {g : TG} {tt : TT} {tk tv : TE} {vs : List Nat} {σ : St} {D : Addr} {Q : VK} {n : Nat} (P : Nat → Hp → Prop)
    (hstop : ∀ H, P n H → J.stop n H ∧ Q (.ref D) H)
    (hgo : ∀ i H, i < n → P i H → ∀ R : Hp → Prop, (∀ H', P (i + 1) H' → R H') → J.go i H ∧ ∀ x H', J.yld i H x H' → g x (wipe σ vs) H' fun σ2 H2 => wipe σ2 vs = wipe σ vs ∧ tt σ2 H2 fun b H3 =>
      if b = true then tk σ2 H3 fun y H4 => tv σ2 H4 fun z H5 => ∃ kvs k, y = kV k ∧ H5 D = some (.dK kvs) ∧ kvs.length < sizeLine ∧ R (upd H5 D (.dK (putK kvs k z))) else R H3)
    {H : Hp} (h : P 0 H) : ∃ m, lpd J g tt tk tv vs σ D Q m 0 H := by
  have key : ∀ m i H, m + i = n → P i H → lpd J g tt tk tv vs σ D Q m i H := by
    intro m
    induction m with
    | zero =>
      intro i H hm p
      have : i = n := by omega
      subst this
      exact hstop _ p
    | succ m ih =>
      intro i H hm p
      exact .inr (hgo i H (by omega) p _ fun H' q => ih (i + 1) H' (by omega) q)
  exact ⟨n, key n 0 H (by omega) h⟩
/-! ### what stays -/
/-- all that was tracked stays as it is -/
abbrev Ex (H H' : Hp) : Prop := ∀ b o, H b = some o → H' b = some o
theorem Ex.refl {H : Hp} : Ex H H := fun _ _ e => e
theorem Ex.trans {H H1 H2 : Hp} (a : Ex H H1) (b : Ex H1 H2) : Ex H H2 := fun c o e => b c o (a c o e)
theorem Ex.new {H H1 : Hp} {p : Addr} {o : HO} (x : Ex H H1) (h : H p = none) : Ex H (upd H1 p o) := fun b u e => by
  rw [upd_ne (ne_of_none e h)]; exact x b u e
theorem Ex.none {H H1 : Hp} {p : Addr} (x : Ex H H1) (h : H1 p = none) : H p = none := by
  cases e : H p with
  | none => rfl
  | some o => rw [x p o e] at h; cases h
/-- .. but what stands at d -/
abbrev Exd (d : Addr) (H H' : Hp) : Prop := ∀ b o, b ≠ d → H b = some o → H' b = some o
/-- what a look sees of lists and tuples stays -/
theorem look_ex {K : PySem.W.Frag} {H H' : Hp} {a : Addr} {u : HO} (x : Ex H H') (hH : H a ≠ none) (h : look K H a = some u) : look K H' a = some u := by
  unfold look at h ⊢
  cases e : H a with
  | none => exact absurd e hH
  | some o => rw [x a o e]; rw [e] at h; exact h
end WR

set_option Elab.async false
set_option linter.all false
set_option maxRecDepth 100000
set_option maxHeartbeats 4000000
namespace WR
open PySem PySem.Spec PyProof.Rows L2
/-! ## sorted texts -/
theorem ltCps_irrefl : ∀ l : List Nat, ltCps l l = false
  | [] => rfl
  | a :: r => by simp [ltCps, ltCps_irrefl r]
theorem ltCps_asymm : ∀ l m : List Nat, ltCps l m = false → ltCps m l = false → l = m
  | [], [], _, _ => rfl
  | [], _ :: _, h, _ => by simp [ltCps] at h
  | _ :: _, [], _, h => by simp [ltCps] at h
  | a :: r, b :: t, h, k => by
    simp only [ltCps, Bool.or_eq_false_iff, decide_eq_false_iff_not, Bool.and_eq_false_iff, beq_eq_false_iff_ne] at h k
    have e : a = b := by omega
    subst e
    have h2 : ltCps r t = false := h.2.resolve_left (fun z => z rfl)
    have k2 : ltCps t r = false := k.2.resolve_left (fun z => z rfl)
    rw [ltCps_asymm r t h2 k2]
theorem ltCps_trans : ∀ l m n : List Nat, ltCps m l = false → ltCps n m = false → ltCps n l = false
  | [], m, n, h, k => by
    cases n with
    | nil => rfl
    | cons c u => rfl
  | a :: r, [], n, h, k => by simp [ltCps] at h
  | a :: r, b :: t, [], h, k => by simp [ltCps] at k
  | a :: r, b :: t, c :: u, h, k => by
    simp only [ltCps, Bool.or_eq_false_iff, decide_eq_false_iff_not, Bool.and_eq_false_iff, beq_eq_false_iff_ne] at h k ⊢
    refine ⟨by omega, ?_⟩
    by_cases e1 : c = a
    · have e2 : b = a := by omega
      have e3 : c = b := by omega
      have h2 : ltCps t r = false := h.2.resolve_left (fun z => z e2)
      have k2 : ltCps u t = false := k.2.resolve_left (fun z => z e3)
      exact .inr (ltCps_trans r t u h2 k2)
    · exact .inl e1
theorem str_ext {a b : Str} (h : a.cps.toList = b.cps.toList) : a = b := by
  obtain ⟨x⟩ := a
  obtain ⟨y⟩ := b
  have : x = y := Array.toList_inj.mp h
  rw [this]
/-- not ahead -/
def leS (a b : Str) : Prop := ltCps b.cps.toList a.cps.toList = false
theorem rising_all : ∀ (r : List Str) (p : Str), risingS p r = true → (∀ x ∈ r, leS p x) ∧ r.Pairwise leS
  | [], p, _ => ⟨fun x h => (nomatch h), List.Pairwise.nil⟩
  | x :: r, p, h => by
    simp only [risingS, Bool.and_eq_true, Bool.not_eq_true'] at h
    obtain ⟨h1, h2⟩ := rising_all r x h.2
    refine ⟨fun y hy => ?_, List.pairwise_cons.mpr ⟨h1, h2⟩⟩
    rcases List.mem_cons.mp hy with rfl | hy
    · exact h.1
    · exact ltCps_trans _ _ _ h.1 (h1 y hy)
theorem sortedS_pw {l : List Str} (h : sortedS l = true) : l.Pairwise leS := by
  cases l with
  | nil => exact List.Pairwise.nil
  | cons x r =>
    obtain ⟨h1, h2⟩ := rising_all r x h
    exact List.pairwise_cons.mpr ⟨h1, h2⟩
theorem pw_uniq : ∀ {l m : List Str}, l.Perm m → l.Pairwise leS → m.Pairwise leS → l = m
  | [], m, p, _, _ => p.nil_eq
  | x :: r, [], p, _, _ => absurd p.symm.nil_eq (by simp)
  | x :: r, y :: t, p, h, k => by
    rw [List.pairwise_cons] at h k
    have e : x = y := by
      have hx : x ∈ y :: t := p.mem_iff.mp (List.mem_cons_self ..)
      have hy : y ∈ x :: r := p.mem_iff.mpr (List.mem_cons_self ..)
      rcases List.mem_cons.mp hx with e | hx
      · exact e
      · rcases List.mem_cons.mp hy with e | hy
        · exact e.symm
        · exact str_ext (ltCps_asymm _ _ (k.1 x hx) (h.1 y hy))
    subst e
    rw [pw_uniq (List.Perm.cons_inv p) h.2 k.2]
/-- two sorted lists of the same texts are one -/
theorem srt_uniq {l m k : List Str} (h1 : l.Perm k) (h2 : sortedS l = true) (h3 : m.Perm k) (h4 : sortedS m = true) : l = m :=
  pw_uniq (h1.trans h3.symm) (sortedS_pw h2) (sortedS_pw h4)
theorem srt_filter {l m k : List Str} {f : Str → Bool} (h1 : l.Perm k) (h2 : sortedS l = true) (h3 : m.Perm (k.filter f)) (h4 : sortedS m = true) : l.filter f = m :=
  pw_uniq ((h1.filter f).trans h3.symm) ((sortedS_pw h2).filter f) (sortedS_pw h4)
/-! ## dicts from names to pairs of numbers -/
abbrev Rws := List (Str × (Int × Int))
def rget (rs : Rws) (n : Str) : Option (Int × Int) := (rs.find? fun r => decide (r.1 = n)).map (·.2)
def rput (rs : Rws) (n : Str) (p : Int × Int) : Rws := if (rs.any fun r => decide (r.1 = n)) = true then rs.map (fun r => if r.1 = n then (r.1, p) else r) else rs ++ [(n, p)]
def rdrop (rs : Rws) (n : Str) : Rws := rs.filter fun r => decide (r.1 ≠ n)
/-- the dict's pairs, each value a tuple of two numbers -/
def RR (H : Hp) : List (Key × V) → Rws → Prop
  | [], [] => True
  | (k, v) :: kvs, (n, c, l) :: rs => k = .inr n ∧ (∃ t, v = .ref t ∧ H t = some (.tup [.int c, .int l])) ∧ RR H kvs rs
  | _, _ => False
/-- tuples stay -/
abbrev Tp (H H' : Hp) : Prop := ∀ t xs, H t = some (.tup xs) → H' t = some (.tup xs)
theorem Ex.tp {H H' : Hp} (x : Ex H H') : Tp H H' := fun t xs e => x t _ e
theorem RR.tp {H H' : Hp} (x : Tp H H') : ∀ {kvs : List (Key × V)} {rs : Rws}, RR H kvs rs → RR H' kvs rs
  | [], [], _ => trivial
  | [], _ :: _, h => h.elim
  | _ :: _, [], h => h.elim
  | (k, v) :: kvs, (n, c, l) :: rs, h => ⟨h.1, by obtain ⟨t, e, q⟩ := h.2.1; exact ⟨t, e, x _ _ q⟩, RR.tp x h.2.2⟩
theorem RR.len {H : Hp} : ∀ {kvs : List (Key × V)} {rs : Rws}, RR H kvs rs → kvs.length = rs.length
  | [], [], _ => rfl
  | [], _ :: _, h => h.elim
  | _ :: _, [], h => h.elim
  | (k, v) :: kvs, (n, c, l) :: rs, h => congrArg Nat.succ (RR.len h.2.2)
theorem RR.keys {H : Hp} : ∀ {kvs : List (Key × V)} {rs : Rws}, RR H kvs rs → keysS kvs = some (rs.map (·.1))
  | [], [], _ => rfl
  | [], _ :: _, h => h.elim
  | _ :: _, [], h => h.elim
  | (k, v) :: kvs, (n, c, l) :: rs, h => by
    obtain ⟨rfl, _, r⟩ := h
    simp only [keysS, RR.keys r, List.map_cons, Option.map_some]
theorem RR.any {H : Hp} (n : Str) : ∀ {kvs : List (Key × V)} {rs : Rws}, RR H kvs rs → (kvs.any fun kv => decide (kv.1 = .inr n)) = (rs.any fun r => decide (r.1 = n))
  | [], [], _ => rfl
  | [], _ :: _, h => h.elim
  | _ :: _, [], h => h.elim
  | (k, v) :: kvs, (m, c, l) :: rs, h => by
    obtain ⟨rfl, _, r⟩ := h
    simp only [List.any_cons, RR.any n r, Sum.inr.injEq]
theorem RR.get {H : Hp} (n : Str) : ∀ {kvs : List (Key × V)} {rs : Rws}, RR H kvs rs → (valV kvs (.inr n) = none ∧ rget rs n = none) ∨ ∃ t c l, valV kvs (.inr n) = some (.ref t) ∧ rget rs n = some (c, l) ∧ H t = some (.tup [.int c, .int l])
  | [], [], _ => .inl ⟨rfl, rfl⟩
  | [], _ :: _, h => h.elim
  | _ :: _, [], h => h.elim
  | (k, v) :: kvs, (m, c, l) :: rs, h => by
    obtain ⟨rfl, ⟨t, rfl, e⟩, r⟩ := h
    by_cases hm : m = n
    · subst hm
      exact .inr ⟨t, c, l, valV_pos rfl, by simp [rget], e⟩
    · have h1 : ¬ ((Sum.inr m : Key) = Sum.inr n) := fun z => hm (Sum.inr.inj z)
      rcases RR.get n r with ⟨a, b⟩ | ⟨t', c', l', a, b, d⟩
      · exact .inl ⟨by rw [valV_neg h1]; exact a, by simp [rget, List.find?_cons, hm] at b ⊢; exact b⟩
      · exact .inr ⟨t', c', l', by rw [valV_neg h1]; exact a, by simp [rget, List.find?_cons, hm] at b ⊢; exact b, d⟩
theorem RR.app {H : Hp} {n : Str} {t : Addr} {c l : Int} (e : H t = some (.tup [.int c, .int l])) : ∀ {kvs : List (Key × V)} {rs : Rws}, RR H kvs rs → RR H (kvs ++ [(.inr n, .ref t)]) (rs ++ [(n, c, l)])
  | [], [], _ => ⟨rfl, ⟨t, rfl, e⟩, trivial⟩
  | [], _ :: _, h => h.elim
  | _ :: _, [], h => h.elim
  | (k, v) :: kvs, (m, c', l') :: rs, h => ⟨h.1, h.2.1, RR.app e h.2.2⟩
theorem RR.map {H : Hp} {n : Str} {t : Addr} {c l : Int} (e : H t = some (.tup [.int c, .int l])) : ∀ {kvs : List (Key × V)} {rs : Rws}, RR H kvs rs → RR H (kvs.map fun kv => if kv.1 = .inr n then (kv.1, V.ref t) else kv) (rs.map fun r => if r.1 = n then (r.1, c, l) else r)
  | [], [], _ => trivial
  | [], _ :: _, h => h.elim
  | _ :: _, [], h => h.elim
  | (k, v) :: kvs, (m, c', l') :: rs, h => by
    obtain ⟨rfl, q, r⟩ := h
    by_cases hm : m = n
    · simp only [List.map_cons, Sum.inr.injEq, hm, if_true]
      exact ⟨rfl, ⟨t, rfl, e⟩, RR.map e r⟩
    · simp only [List.map_cons, Sum.inr.injEq, hm, if_false]
      exact ⟨rfl, q, RR.map e r⟩
theorem RR.put {H : Hp} {n : Str} {t : Addr} {c l : Int} {kvs : List (Key × V)} {rs : Rws} (e : H t = some (.tup [.int c, .int l])) (h : RR H kvs rs) : RR H (putK kvs (.inr n) (.ref t)) (rput rs n (c, l)) := by
  unfold putK rput
  rw [RR.any n h]
  split
  · exact RR.map e h
  · exact RR.app e h
theorem RR.drop {H : Hp} (n : Str) : ∀ {kvs : List (Key × V)} {rs : Rws}, RR H kvs rs → RR H (dropK kvs (.inr n)) (rdrop rs n)
  | [], [], _ => trivial
  | [], _ :: _, h => h.elim
  | _ :: _, [], h => h.elim
  | (k, v) :: kvs, (m, c', l') :: rs, h => by
    obtain ⟨rfl, q, r⟩ := h
    by_cases hm : m = n
    · have e1 : dropK ((Sum.inr m, v) :: kvs) (Sum.inr n : Key) = dropK kvs (.inr n) := dropK_pos (by rw [hm])
      rw [e1]
      simp only [rdrop, List.filter_cons, hm, ne_eq, not_true, decide_false, Bool.false_eq_true, if_false]
      exact RR.drop n r
    · have e1 : dropK ((Sum.inr m, v) :: kvs) (Sum.inr n : Key) = (Sum.inr m, v) :: dropK kvs (.inr n) := dropK_neg (fun z => hm (Sum.inr.inj z))
      rw [e1]
      simp only [rdrop, List.filter_cons, hm, ne_eq, not_false_eq_true, decide_true, if_true]
      exact ⟨rfl, q, RR.drop n r⟩
theorem rput_len (rs : Rws) (n : Str) (p : Int × Int) : (rput rs n p).length ≤ rs.length + 1 := by
  unfold rput; split <;> simp
/-- a dict of such rows at d -/
def RAt (H : Hp) (d : Addr) (rs : Rws) : Prop := ∃ kvs, H d = some (.dK kvs) ∧ RR H kvs rs
theorem RAt.ex {H H' : Hp} {d : Addr} {rs : Rws} (x : Ex H H') (h : RAt H d rs) : RAt H' d rs := by
  obtain ⟨kvs, e, r⟩ := h
  exact ⟨kvs, x _ _ e, r.tp x.tp⟩
/-- one statement: what comes behind is a name -/
theorem seq_ {t u : TS} {D : Ends} {σ : St} {H : Hp} (h : ∀ N : St → Hp → Prop, (∀ σ H, u D σ H → N σ H) → t { D with nx := N } σ H) : tSeq t u D σ H := h _ fun _ _ q => q
theorem lk1 {f m : Str} {v : V} (h : (m == f) = false) : List.lookup m [(f, v)] = none := by
  simp only [List.lookup, h]
/-! ## a dict's looks by a text -/
section
variable {K : PySem.W.Frag} {H : Hp} {a : Addr} {Q : VK}
theorem in_dS {kvs : List (Key × V)} {s : Str} {b : Bool} (h : H a = some (.dK kvs)) : oIn K b (.str s) (.ref a) H Q = Q (.bl (b ^^ (valV kvs (.inr s)).isSome)) H := in_dK (k := .inr s) (.inl h)
theorem ix_dS {kvs : List (Key × V)} {s : Str} {v : V} (h : H a = some (.dK kvs)) (e : valV kvs (.inr s) = some v) : oIx K (.ref a) (.str s) H Q = Q v H := ix_dK (k := .inr s) (.inl h) e.symm
theorem ix_dSf {kvs : List (Key × V)} {s : Str} {v : V} {o : Obj} (h : H a = some (.frz o (.dK kvs))) (e : valV kvs (.inr s) = some v) : oIx K (.ref a) (.str s) H Q = Q v H := ix_dK (k := .inr s) (.inr ⟨o, h⟩) e.symm
theorem set_dS {kvs : List (Key × V)} {s : Str} {v : V} {R : Hp → Prop} (h : H a = some (.dK kvs)) (hl : kvs.length < 1000) (q : R (upd H a (.dK (putK kvs (.inr s) v)))) : oSet (.ref a) (.str s) v H R := by
  simp only [oSet, h, keyOf]
  exact ⟨Nat.lt_trans hl (small1000 (Nat.le_refl _)), q⟩
end
end WR

set_option Elab.async false
set_option linter.all false
set_option maxRecDepth 100000
set_option maxHeartbeats 0
namespace WR.L
open PySem PySem.Spec PyProof.Rows L2
def top (i : Nat) : Stmt := PySem.Challenge.pw_peersmeet_k24_wrongs_seen_and_forgotten.main.body.getD i (.Pass ⟨0, 0, 0, 0⟩)
def d_is_name : Df := ⟨("is_name", none), "is_name", "is_name", top 5, ["thing", "sign"], ["thing"], [], []⟩
def d_need_name : Df := ⟨("need_name", none), "need_name", "need_name", top 6, ["thing"], ["thing"], [], []⟩
def d_Wrongs___init__ : Df := ⟨("Wrongs", some "__init__"), "__init__", "Wrongs.__init__", inClass (top 10) 0, ["self"], ["self"], [], []⟩
def d_Wrongs___len__ : Df := ⟨("Wrongs", some "__len__"), "__len__", "Wrongs.__len__", inClass (top 10) 1, ["self"], ["self"], [], []⟩
def d_Wrongs___eq__ : Df := ⟨("Wrongs", some "__eq__"), "__eq__", "Wrongs.__eq__", inClass (top 10) 2, ["self", "other"], ["self", "other"], [], []⟩
def d_Wrongs___str__ : Df := ⟨("Wrongs", some "__str__"), "__str__", "Wrongs.__str__", inClass (top 10) 3, ["self", "name", "count", "left"], ["self"], [], []⟩
def d_Wrongs___repr__ : Df := ⟨("Wrongs", some "__repr__"), "__repr__", "Wrongs.__repr__", inClass (top 10) 4, ["self"], ["self"], [], []⟩
def d_Wrongs_seen : Df := ⟨("Wrongs", some "seen"), "seen", "Wrongs.seen", inClass (top 10) 5, ["self", "name", "count"], ["self", "name"], [], []⟩
def d_Wrongs_turn : Df := ⟨("Wrongs", some "turn"), "turn", "Wrongs.turn", inClass (top 10) 6, ["self", "gone", "name", "count", "left"], ["self"], [], []⟩
def d_Wrongs_passes : Df := ⟨("Wrongs", some "passes"), "passes", "Wrongs.passes", inClass (top 10) 7, ["self", "name"], ["self", "name"], [], []⟩
def d_Wrongs_count_of : Df := ⟨("Wrongs", some "count_of"), "count_of", "Wrongs.count_of", inClass (top 10) 8, ["self", "name"], ["self", "name"], [], []⟩
def d_Wrongs_told : Df := ⟨("Wrongs", some "told"), "told", "Wrongs.told", inClass (top 10) 9, ["self", "name"], ["self"], [], []⟩
def d_Wrongs_copied : Df := ⟨("Wrongs", some "copied"), "copied", "Wrongs.copied", inClass (top 10) 10, ["self", "other"], ["self"], [], []⟩
def d__law_cell_at : Df := ⟨("_law_cell_at", none), "_law_cell_at", "_law_cell_at", top 12, ["script", "k"], ["script", "k"], [], []⟩
def d__law_row : Df := ⟨("_law_row", none), "_law_row", "_law_row", top 13, ["cell", "many", "salt", "row", "rest", "k", "mixed"], ["cell", "many", "salt"], [], []⟩
def d__law_alike : Df := ⟨("_law_alike", none), "_law_alike", "_law_alike", top 14, ["found", "due", "k", "name"], ["found", "due"], [], []⟩
def d__law_names : Df := ⟨("_law_names", none), "_law_names", "_law_names", top 15, ["cell", "many", "row", "letters", "stem", "at", "step", "found", "k", "name", "part"], ["cell", "many"], [], []⟩
def d__law_seen : Df := ⟨("_law_seen", none), "_law_seen", "_law_seen", top 16, ["rows", "name", "count"], ["rows", "name"], [], []⟩
def d__law_turned : Df := ⟨("_law_turned", none), "_law_turned", "_law_turned", top 17, ["rows", "gone", "name"], ["rows"], [], []⟩
def d__law_told : Df := ⟨("_law_told", none), "_law_told", "_law_told", top 18, ["rows", "found", "name"], ["rows"], [], []⟩
def d__law_right : Df := ⟨("_law_right", none), "_law_right", "_law_right", top 19, ["wrongs", "rows", "names", "told", "texts", "name", "thing", "count"], ["wrongs", "rows", "names"], [], []⟩
def d_law : Df := ⟨("law", none), "law", "law", top 20, ["script", "names", "both", "tables", "cell", "thing", "k", "which", "way", "name", "told", "left_one", "before"], ["script"], [], []⟩
theorem kb1 : Kb d_is_name 1 [] (fun vs _ => vs) := kb_plain rfl (fun _ _ _ _ _ _ us hl => match us, hl with | [_], _ => rfl)
theorem kb2 : Kb d_need_name 1 [] (fun vs _ => vs) := kb_plain rfl (fun _ _ _ _ _ _ us hl => match us, hl with | [_], _ => rfl)
theorem kb3 : Kb d_Wrongs___init__ (0 + 1) [] (fun vs zs => match vs with | v :: r => v :: (fun vs _ => vs) r zs | [] => []) := kb_plainM rfl rfl (fun _ _ _ _ _ _ us hl => match us, hl with | [_], _ => rfl)
theorem kb4 : Kb d_Wrongs___len__ (0 + 1) [] (fun vs zs => match vs with | v :: r => v :: (fun vs _ => vs) r zs | [] => []) := kb_plainM rfl rfl (fun _ _ _ _ _ _ us hl => match us, hl with | [_], _ => rfl)
theorem kb5 : Kb d_Wrongs___eq__ (1 + 1) [] (fun vs zs => match vs with | v :: r => v :: (fun vs _ => vs) r zs | [] => []) := kb_plainM rfl rfl (fun _ _ _ _ _ _ us hl => match us, hl with | [_, _], _ => rfl)
theorem kb6 : Kb d_Wrongs___str__ (0 + 1) [] (fun vs zs => match vs with | v :: r => v :: (fun vs _ => vs) r zs | [] => []) := kb_plainM rfl rfl (fun _ _ _ _ _ _ us hl => match us, hl with | [_], _ => rfl)
theorem kb7 : Kb d_Wrongs___repr__ (0 + 1) [] (fun vs zs => match vs with | v :: r => v :: (fun vs _ => vs) r zs | [] => []) := kb_plainM rfl rfl (fun _ _ _ _ _ _ us hl => match us, hl with | [_], _ => rfl)
theorem kb8 : Kb d_Wrongs_seen (1 + 1) [] (fun vs zs => match vs with | v :: r => v :: (fun vs _ => vs) r zs | [] => []) := kb_plainM rfl rfl (fun _ _ _ _ _ _ us hl => match us, hl with | [_, _], _ => rfl)
theorem kb9 : Kb d_Wrongs_turn (0 + 1) [] (fun vs zs => match vs with | v :: r => v :: (fun vs _ => vs) r zs | [] => []) := kb_plainM rfl rfl (fun _ _ _ _ _ _ us hl => match us, hl with | [_], _ => rfl)
theorem kb10 : Kb d_Wrongs_passes (1 + 1) [] (fun vs zs => match vs with | v :: r => v :: (fun vs _ => vs) r zs | [] => []) := kb_plainM rfl rfl (fun _ _ _ _ _ _ us hl => match us, hl with | [_, _], _ => rfl)
theorem kb11 : Kb d_Wrongs_count_of (1 + 1) [] (fun vs zs => match vs with | v :: r => v :: (fun vs _ => vs) r zs | [] => []) := kb_plainM rfl rfl (fun _ _ _ _ _ _ us hl => match us, hl with | [_, _], _ => rfl)
theorem kb12 : Kb d_Wrongs_told (0 + 1) [] (fun vs zs => match vs with | v :: r => v :: (fun vs _ => vs) r zs | [] => []) := kb_plainM rfl rfl (fun _ _ _ _ _ _ us hl => match us, hl with | [_], _ => rfl)
theorem kb13 : Kb d_Wrongs_copied (0 + 1) [] (fun vs zs => match vs with | v :: r => v :: (fun vs _ => vs) r zs | [] => []) := kb_plainM rfl rfl (fun _ _ _ _ _ _ us hl => match us, hl with | [_], _ => rfl)
theorem kb14 : Kb d__law_cell_at 2 [] (fun vs _ => vs) := kb_plain rfl (fun _ _ _ _ _ _ us hl => match us, hl with | [_, _], _ => rfl)
theorem kb15 : Kb d__law_row 3 [] (fun vs _ => vs) := kb_plain rfl (fun _ _ _ _ _ _ us hl => match us, hl with | [_, _, _], _ => rfl)
theorem kb16 : Kb d__law_alike 2 [] (fun vs _ => vs) := kb_plain rfl (fun _ _ _ _ _ _ us hl => match us, hl with | [_, _], _ => rfl)
theorem kb17 : Kb d__law_names 2 [] (fun vs _ => vs) := kb_plain rfl (fun _ _ _ _ _ _ us hl => match us, hl with | [_, _], _ => rfl)
theorem kb18 : Kb d__law_seen 2 [] (fun vs _ => vs) := kb_plain rfl (fun _ _ _ _ _ _ us hl => match us, hl with | [_, _], _ => rfl)
theorem kb19 : Kb d__law_turned 1 [] (fun vs _ => vs) := kb_plain rfl (fun _ _ _ _ _ _ us hl => match us, hl with | [_], _ => rfl)
theorem kb20 : Kb d__law_told 1 [] (fun vs _ => vs) := kb_plain rfl (fun _ _ _ _ _ _ us hl => match us, hl with | [_], _ => rfl)
theorem kb21 : Kb d__law_right 3 [] (fun vs _ => vs) := kb_plain rfl (fun _ _ _ _ _ _ us hl => match us, hl with | [_, _, _], _ => rfl)
theorem kb22 : Kb d_law 1 [] (fun vs _ => vs) := kb_plain rfl (fun _ _ _ _ _ _ us hl => match us, hl with | [_], _ => rfl)
def y : Sy where
  ds := [("is_name", d_is_name), ("need_name", d_need_name), ("Wrongs.__init__", d_Wrongs___init__), ("Wrongs.__len__", d_Wrongs___len__), ("Wrongs.__eq__", d_Wrongs___eq__), ("Wrongs.__str__", d_Wrongs___str__), ("Wrongs.__repr__", d_Wrongs___repr__), ("Wrongs.seen", d_Wrongs_seen), ("Wrongs.turn", d_Wrongs_turn), ("Wrongs.passes", d_Wrongs_passes), ("Wrongs.count_of", d_Wrongs_count_of), ("Wrongs.told", d_Wrongs_told), ("Wrongs.copied", d_Wrongs_copied), ("_law_cell_at", d__law_cell_at), ("_law_row", d__law_row), ("_law_alike", d__law_alike), ("_law_names", d__law_names), ("_law_seen", d__law_seen), ("_law_turned", d__law_turned), ("_law_told", d__law_told), ("_law_right", d__law_right), ("law", d_law)]
  cps := [⟨"is_name", 1, [], fun vs _ => vs⟩, ⟨"need_name", 1, [], fun vs _ => vs⟩, ⟨"_law_cell_at", 2, [], fun vs _ => vs⟩, ⟨"_law_row", 3, [], fun vs _ => vs⟩, ⟨"_law_alike", 2, [], fun vs _ => vs⟩, ⟨"_law_names", 2, [], fun vs _ => vs⟩, ⟨"_law_seen", 2, [], fun vs _ => vs⟩, ⟨"_law_turned", 1, [], fun vs _ => vs⟩, ⟨"_law_told", 1, [], fun vs _ => vs⟩, ⟨"_law_right", 3, [], fun vs _ => vs⟩, ⟨"law", 1, [], fun vs _ => vs⟩]
  nums := [("MOST_WRONGS", 3), ("TURNS", 5)]
  txts := [("LETTERS", "abcdefghijklmnopqrstuvwxyz")]
  blt := ["len", "isinstance", "all", "abs", "int", "str", "list", "tuple", "dict", "range", "bool", "sorted"]
  cms := [⟨"Wrongs", "__len__", 0, [], fun vs _ => vs⟩, ⟨"Wrongs", "__eq__", 1, [], fun vs _ => vs⟩, ⟨"Wrongs", "__str__", 0, [], fun vs _ => vs⟩, ⟨"Wrongs", "__repr__", 0, [], fun vs _ => vs⟩, ⟨"Wrongs", "seen", 1, [], fun vs _ => vs⟩, ⟨"Wrongs", "turn", 0, [], fun vs _ => vs⟩, ⟨"Wrongs", "passes", 1, [], fun vs _ => vs⟩, ⟨"Wrongs", "count_of", 1, [], fun vs _ => vs⟩, ⟨"Wrongs", "told", 0, [], fun vs _ => vs⟩, ⟨"Wrongs", "copied", 0, [], fun vs _ => vs⟩]
  cks := [⟨"Wrongs", "__init__", 0, [], fun vs _ => vs⟩]
  cls := ["Wrongs"]
  ats := [("wrong_counts", ["Wrongs"]), ("__bool__", ["Wrongs"])]
  nes := ["Wrongs"]
abbrev gg (K : PySem.W.Frag) (S : Str → Sp) : G := gOf (y.tb K) S
def r_is_name (K : PySem.W.Frag) (S : Str → Sp) (W : WX) : TS :=
  (tRet (cAnd K (tCB (bIsi K) (tCons (cVar 0) (tCons (tC (.ty "str")) tNil))) (cAnd K (cChain oLe oLe (tC (.int 1)) (tCB (bLenG (gg K S)) (tCons (cVar 0) tNil)) (tC (.int 8))) (tCB (bAll K) (tCons (cLcL (cIter K (frzE (cVar 0))) (gName 1) tYes (tOp (oIn K false) (cVar 1) (tC (.str "abcdefghijklmnopqrstuvwxyz"))) [1]) tNil)))))
theorem e_is_name (K : PySem.W.Frag) (S : Str → Sp) (W : WX) : tBody (tS (gg K S) 40 d_is_name.N (defScope d_is_name.st)) (defBody d_is_name.st) W = r_is_name K S W := by kernel_rfl
def r_need_name (K : PySem.W.Frag) (S : Str → Sp) (W : WX) : TS :=
  (tIfS (tNot (cTru K (cCall (S "is_name") 1 0 (fun vs _ => vs) (tCons (cVar 0) tNil) tNil W)))
  tNever
  tNext)
theorem e_need_name (K : PySem.W.Frag) (S : Str → Sp) (W : WX) : tBody (tS (gg K S) 40 d_need_name.N (defScope d_need_name.st)) (defBody d_need_name.st) W = r_need_name K S W := by kernel_rfl
def r_Wrongs___init__ (K : PySem.W.Frag) (S : Str → Sp) (W : WX) : TS :=
  (cFldS [He.ga K "Wrongs"] "wrong_counts" (cVar 0) tDNewK)
theorem e_Wrongs___init__ (K : PySem.W.Frag) (S : Str → Sp) (W : WX) : tBody (tS (gg K S) 40 d_Wrongs___init__.N (defScope d_Wrongs___init__.st)) (defBody d_Wrongs___init__.st) W = r_Wrongs___init__ K S W := by kernel_rfl
def r_Wrongs___len__ (K : PySem.W.Frag) (S : Str → Sp) (W : WX) : TS :=
  (tRet (tCB (bLenG (gg K S)) (tCons (cAttr [He.ga K "Wrongs"] "wrong_counts" (cVar 0)) tNil)))
theorem e_Wrongs___len__ (K : PySem.W.Frag) (S : Str → Sp) (W : WX) : tBody (tS (gg K S) 40 d_Wrongs___len__.N (defScope d_Wrongs___len__.st)) (defBody d_Wrongs___len__.st) W = r_Wrongs___len__ K S W := by kernel_rfl
def r_Wrongs___eq__ (K : PySem.W.Frag) (S : Str → Sp) (W : WX) : TS :=
  (tRet (cAnd K (tCB (bIsO (gg K S) (He.ga K "Wrongs")) (tCons (cVar 1) (tCons (tC (.ref (He.ga K "Wrongs"))) tNil))) (tOp (oEqG (gg K S)) (mC (gg K S) "told" 0 0 [] (cVar 0) tNil tNil W) (mC (gg K S) "told" 0 0 [] (cVar 1) tNil tNil W))))
theorem e_Wrongs___eq__ (K : PySem.W.Frag) (S : Str → Sp) (W : WX) : tBody (tS (gg K S) 40 d_Wrongs___eq__.N (defScope d_Wrongs___eq__.st)) (defBody d_Wrongs___eq__.st) W = r_Wrongs___eq__ K S W := by kernel_rfl
def r_Wrongs___str__ (K : PySem.W.Frag) (S : Str → Sp) (W : WX) : TS :=
  (tRet (mC (gg K S) "join" 1 0 [] (tC (.str "; ")) (tCons (cLcL (cDview 2 (frzE (mC (gg K S) "told" 0 0 [] (cVar 0) tNil tNil W))) (cTupG K 2 (gCons (gName 1) (gCons (cTupG K 2 (gCons (gName 2) (gCons (gName 3) gNil))) gNil))) tYes (joinT [(cFmt (cVar 1)), (tC (.str " ")), (cFmt (cVar 2)), (tC (.str " ")), (cFmt (cVar 3))]) [1, 2, 3]) tNil) tNil W))
theorem e_Wrongs___str__ (K : PySem.W.Frag) (S : Str → Sp) (W : WX) : tBody (tS (gg K S) 40 d_Wrongs___str__.N (defScope d_Wrongs___str__.st)) (defBody d_Wrongs___str__.st) W = r_Wrongs___str__ K S W := by kernel_rfl
def r_Wrongs_seen (K : PySem.W.Frag) (S : Str → Sp) (W : WX) : TS :=
  (tSeq (tDrop (cCall (S "need_name") 1 0 (fun vs _ => vs) (tCons (cVar 1) tNil) tNil W))
  (tSeq (tAsg (tOp (oAdd K) (mC (gg K S) "count_of" 1 0 [] (cVar 0) (tCons (cVar 1) tNil) tNil W) (tC (.int 1))) (gName 2))
  (tSeq (tAsg (tTup (tCons (cVar 2) (tCons (tC (.int 5)) tNil))) (gSub (cAttr [He.ga K "Wrongs"] "wrong_counts" (cVar 0)) (cVar 1) oSet))
  (tRet (cVar 2)))))
theorem e_Wrongs_seen (K : PySem.W.Frag) (S : Str → Sp) (W : WX) : tBody (tS (gg K S) 40 d_Wrongs_seen.N (defScope d_Wrongs_seen.st)) (defBody d_Wrongs_seen.st) W = r_Wrongs_seen K S W := by kernel_rfl
def r_Wrongs_turn (K : PySem.W.Frag) (S : Str → Sp) (W : WX) : TS :=
  (tSeq (orL (tAsg (cLc (cDview 2 (frzE (mC (gg K S) "told" 0 0 [] (cVar 0) tNil tNil W))) (cTupG K 2 (gCons (gName 2) (gCons (cTupG K 2 (gCons (gName 3) (gCons (gName 4) gNil))) gNil))) (cTest (tOp (oEqG (gg K S)) (cVar 4) (tC (.int 1)))) (cVar 2) [2, 3, 4]) (gName 1)))
  (tSeq (cFldS [He.ga K "Wrongs"] "wrong_counts" (cVar 0) (cDcL (cDview 2 (frzE (cAttr [He.ga K "Wrongs"] "wrong_counts" (cVar 0)))) (cTupG K 2 (gCons (gName 2) (gCons (cTupG K 2 (gCons (gName 3) (gCons (gName 4) gNil))) gNil))) (cTest (tOp oGt (cVar 4) (tC (.int 1)))) (cVar 2) (tTup (tCons (cVar 3) (tCons (tOp oSub (cVar 4) (tC (.int 1))) tNil))) [2, 3, 4]))
  (tRet (cVar 1))))
theorem e_Wrongs_turn (K : PySem.W.Frag) (S : Str → Sp) (W : WX) : tBody (tS (gg K S) 40 d_Wrongs_turn.N (defScope d_Wrongs_turn.st)) (defBody d_Wrongs_turn.st) W = r_Wrongs_turn K S W := by kernel_rfl
def r_Wrongs_passes (K : PySem.W.Frag) (S : Str → Sp) (W : WX) : TS :=
  (tRet (cAnd K (cCall (S "is_name") 1 0 (fun vs _ => vs) (tCons (cVar 1) tNil) tNil W) (tOp oGe (mC (gg K S) "count_of" 1 0 [] (cVar 0) (tCons (cVar 1) tNil) tNil W) (tC (.int 3)))))
theorem e_Wrongs_passes (K : PySem.W.Frag) (S : Str → Sp) (W : WX) : tBody (tS (gg K S) 40 d_Wrongs_passes.N (defScope d_Wrongs_passes.st)) (defBody d_Wrongs_passes.st) W = r_Wrongs_passes K S W := by kernel_rfl
def r_Wrongs_count_of (K : PySem.W.Frag) (S : Str → Sp) (W : WX) : TS :=
  (tSeq (tDrop (cCall (S "need_name") 1 0 (fun vs _ => vs) (tCons (cVar 1) tNil) tNil W))
  (tRet (tIf (cTest (tOp (oIn K false) (cVar 1) (cAttr [He.ga K "Wrongs"] "wrong_counts" (cVar 0)))) (tOp (oIx K) (tOp (oIx K) (cAttr [He.ga K "Wrongs"] "wrong_counts" (cVar 0)) (cVar 1)) (tC (.int 0))) (tC (.int 0)))))
theorem e_Wrongs_count_of (K : PySem.W.Frag) (S : Str → Sp) (W : WX) : tBody (tS (gg K S) 40 d_Wrongs_count_of.N (defScope d_Wrongs_count_of.st)) (defBody d_Wrongs_count_of.st) W = r_Wrongs_count_of K S W := by kernel_rfl
def r_Wrongs_told (K : PySem.W.Frag) (S : Str → Sp) (W : WX) : TS :=
  (tRet (cDcL (cIter K (frzE (tCB (bSorted K) (tCons (cAttr [He.ga K "Wrongs"] "wrong_counts" (cVar 0)) tNil)))) (gName 1) tYes (cVar 1) (tOp (oIx K) (cAttr [He.ga K "Wrongs"] "wrong_counts" (cVar 0)) (cVar 1)) [1]))
theorem e_Wrongs_told (K : PySem.W.Frag) (S : Str → Sp) (W : WX) : tBody (tS (gg K S) 40 d_Wrongs_told.N (defScope d_Wrongs_told.st)) (defBody d_Wrongs_told.st) W = r_Wrongs_told K S W := by kernel_rfl
def r_Wrongs_copied (K : PySem.W.Frag) (S : Str → Sp) (W : WX) : TS :=
  (tSeq (tAsg (cMk (He.ga K "Wrongs") 0 0 (fun vs _ => vs) (S "Wrongs.__init__") tNil tNil W) (gName 1))
  (tSeq (cFldS [He.ga K "Wrongs"] "wrong_counts" (cVar 1) (tCB (bDict K) (tCons (cAttr [He.ga K "Wrongs"] "wrong_counts" (cVar 0)) tNil)))
  (tRet (cVar 1))))
theorem e_Wrongs_copied (K : PySem.W.Frag) (S : Str → Sp) (W : WX) : tBody (tS (gg K S) 40 d_Wrongs_copied.N (defScope d_Wrongs_copied.st)) (defBody d_Wrongs_copied.st) W = r_Wrongs_copied K S W := by kernel_rfl
def r__law_cell_at (K : PySem.W.Frag) (S : Str → Sp) (W : WX) : TS :=
  (tSeq (tIfS (cTest (tOp oLt (cVar 1) (tCB (bLenG (gg K S)) (tCons (cVar 0) tNil))))
  (tRet (tOp (oIx K) (cVar 0) (cVar 1)))
  tNext)
  (tRet (tC (.int 0))))
theorem e__law_cell_at (K : PySem.W.Frag) (S : Str → Sp) (W : WX) : tBody (tS (gg K S) 40 d__law_cell_at.N (defScope d__law_cell_at.st)) (defBody d__law_cell_at.st) W = r__law_cell_at K S W := by kernel_rfl
def r__law_row (K : PySem.W.Frag) (S : Str → Sp) (W : WX) : TS :=
  (tSeq (tAsg (tLst tNil) (gName 3))
  (tSeq (tAsg (tC (.int 0)) (gName 4))
  (tSeq (tIfS (cTest (tOp oGe (tCB (bAbs) (tCons (cVar 0) tNil)) (tOp oPow (tC (.int 10)) (tC (.int 18)))))
  (tAsg (tCB (bAbs) (tCons (cVar 0) tNil)) (gName 4))
  tNext)
  (tSeq (orL (cFor (cRng1 (tCons (cVar 1) tNil)) (gName 5)
  (tIfS (cTest (tOp oGt (cVar 4) (tC (.int 0))))
  (tSeq (tDrop (mC (gg K S) "append" 1 0 [] (cVar 3) (tCons (tOp oMod (cVar 4) (tC (.int 1000003))) tNil) tNil W))
  (tAsg (tOp oFdiv (cVar 4) (tC (.int 1000003))) (gName 4)))
  (tSeq (tAsg (tOp (oAdd K) (tOp (oAdd K) (tOp oMul (tOp (oAdd K) (tOp oMod (cVar 0) (tC (.int 2147483629))) (tC (.int 1))) (tOp (oAdd K) (cVar 2) (tOp oMul (tC (.int 48271)) (cVar 5)))) (tOp oMul (tC (.int 69621)) (cVar 5))) (cVar 2)) (gName 6))
  (tSeq (tAsg (tOp oMod (tOp oPow (tOp oMod (cVar 6) (tC (.int 2147483647))) (tC (.int 5))) (tC (.int 2147483647))) (gName 6))
  (tDrop (mC (gg K S) "append" 1 0 [] (cVar 3) (tCons (tOp oFdiv (tOp oMod (tOp oPow (tOp (oAdd K) (cVar 6) (cVar 5)) (tC (.int 5))) (tC (.int 2147483629))) (tC (.int 16))) tNil) tNil W)))))))
  (tRet (cVar 3))))))
theorem e__law_row (K : PySem.W.Frag) (S : Str → Sp) (W : WX) : tBody (tS (gg K S) 40 d__law_row.N (defScope d__law_row.st)) (defBody d__law_row.st) W = r__law_row K S W := by kernel_rfl
def r__law_alike (K : PySem.W.Frag) (S : Str → Sp) (W : WX) : TS :=
  (tSeq (tIfS (cTest (tOp oIs (cVar 1) (tC .non)))
  (tRet (tOp oIs (cVar 0) (tC .non)))
  tNext)
  (tSeq (tIfS (cTru K (tCB (bIsi K) (tCons (cVar 1) (tCons (tC (.ty "bool")) tNil))))
  (tRet (cAnd K (tCB (bIsi K) (tCons (cVar 0) (tCons (tC (.ty "bool")) tNil))) (tOp (oEqG (gg K S)) (cVar 0) (cVar 1))))
  tNext)
  (tSeq (tIfS (cTru K (tCB (bIsi K) (tCons (cVar 1) (tCons (tC (.ty "int")) tNil))))
  (tRet (cAnd K (tCB (bIsi K) (tCons (cVar 0) (tCons (tC (.ty "int")) tNil))) (cAnd K (cNot K (tCB (bIsi K) (tCons (cVar 0) (tCons (tC (.ty "bool")) tNil)))) (tOp (oEqG (gg K S)) (cVar 0) (cVar 1)))))
  tNext)
  (tSeq (tIfS (cTru K (tCB (bIsi K) (tCons (cVar 1) (tCons (tC (.ty "str")) tNil))))
  (tRet (cAnd K (tCB (bIsi K) (tCons (cVar 0) (tCons (tC (.ty "str")) tNil))) (tOp (oEqG (gg K S)) (cVar 0) (cVar 1))))
  tNext)
  (tSeq (tIfS (cTru K (tCB (bIsi K) (tCons (cVar 1) (tCons (tC (.ty "dict")) tNil))))
  (tSeq (tIfS (tOr (tNot (cTru K (tCB (bIsi K) (tCons (cVar 0) (tCons (tC (.ty "dict")) tNil))))) (cTest (tOp (oNeG (gg K S)) (tCB (bList K) (tCons (cVar 0) tNil)) (tCB (bList K) (tCons (cVar 1) tNil)))))
  (tRet (tC (.bl false)))
  tNext)
  (tRet (tCB (bAll K) (tCons (cLcL (cIter K (frzE (cVar 1))) (gName 3) tYes (cCall (S "_law_alike") 2 0 (fun vs _ => vs) (tCons (tOp (oIx K) (cVar 0) (cVar 3)) (tCons (tOp (oIx K) (cVar 1) (cVar 3)) tNil)) tNil wNone) [3]) tNil))))
  tNext)
  (tSeq (tIfS (cTru K (tCB (bIsi K) (tCons (cVar 1) (tCons (tC (.ty "tuple")) tNil))))
  (tIfS (tNot (cTru K (tCB (bIsi K) (tCons (cVar 0) (tCons (tC (.ty "tuple")) tNil)))))
  (tRet (tC (.bl false)))
  tNext)
  (tIfS (tNot (cTru K (tCB (bIsi K) (tCons (cVar 0) (tCons (tC (.ty "list")) tNil)))))
  (tRet (tC (.bl false)))
  tNext))
  (tSeq (tIfS (cTest (tOp (oNeG (gg K S)) (tCB (bLenG (gg K S)) (tCons (cVar 0) tNil)) (tCB (bLenG (gg K S)) (tCons (cVar 1) tNil))))
  (tRet (tC (.bl false)))
  tNext)
  (tRet (tCB (bAll K) (tCons (cLcL (cRng1 (tCons (tCB (bLenG (gg K S)) (tCons (cVar 1) tNil)) tNil)) (gName 2) tYes (cCall (S "_law_alike") 2 0 (fun vs _ => vs) (tCons (tOp (oIx K) (cVar 0) (cVar 2)) (tCons (tOp (oIx K) (cVar 1) (cVar 2)) tNil)) tNil wNone) [2]) tNil))))))))))
theorem e__law_alike (K : PySem.W.Frag) (S : Str → Sp) (W : WX) : tBody (tS (gg K S) 40 d__law_alike.N (defScope d__law_alike.st)) (defBody d__law_alike.st) W = r__law_alike K S W := by kernel_rfl
def r__law_names (K : PySem.W.Frag) (S : Str → Sp) (W : WX) : TS :=
  (tSeq (tAsg (cCall (S "_law_row") 3 0 (fun vs _ => vs) (tCons (cVar 0) (tCons (tC (.int 24)) (tCons (tC (.int 7)) tNil))) tNil W) (gName 2))
  (tSeq (tAsg (tC (.str "abcdefghijklmnopqrstuvwxyz")) (gName 3))
  (tSeq (tAsg (mC (gg K S) "join" 1 0 [] (tC (.str "")) (tCons (cLcL (cIter K (frzE (tSl (oSl K) (cVar 2) (cPart (tC (.int 2))) (cPart (tC (.int 9)))))) (gName 10) tYes (tOp (oIx K) (cVar 3) (tOp oMod (cVar 10) (tC (.int 26)))) [10]) tNil) tNil W) (gName 4))
  (tSeq (tAsg (tOp oMod (tOp (oIx K) (cVar 2) (tC (.int 9))) (tC (.int 8))) (gName 5))
  (tSeq (tAsg (tOp (oIx K) (tLst (tCons (tC (.int 7)) (tCons (tC (.int 19)) (tCons (tC (.int 3)) (tCons (tC (.int 23)) tNil))))) (tOp oMod (tOp (oIx K) (cVar 2) (tC (.int 10))) (tC (.int 4)))) (gName 6))
  (tSeq (tAsg (tLst tNil) (gName 7))
  (tSeq (orL (cFor (cRng1 (tCons (cVar 1) tNil)) (gName 8)
  (tSeq (tAsg (tOp (oAdd K) (tSl (oSl K) (cVar 4) tNoPart (cPart (cVar 5))) (tOp (oIx K) (cVar 3) (tOp oMod (tOp (oAdd K) (tOp (oIx K) (cVar 2) (tC (.int 11))) (tOp oMul (cVar 6) (cVar 8))) (tC (.int 26))))) (gName 9))
  (tDrop (mC (gg K S) "append" 1 0 [] (cVar 7) (tCons (tOp (oAdd K) (cVar 9) (tSl (oSl K) (cVar 4) (cPart (cVar 5)) (cPart (tOp (oAdd K) (cVar 5) (tOp oMod (tOp (oIx K) (cVar 2) (tOp (oAdd K) (tC (.int 12)) (tOp oMod (cVar 8) (tC (.int 8))))) (tOp oSub (tC (.int 8)) (cVar 5))))))) tNil) tNil W)))))
  (tSeq (tIfS (tAnd (cTest (tOp oGt (cVar 1) (tC (.int 1)))) (tAnd (cTest (tOp oLt (tCB (bLenG (gg K S)) (tCons (tOp (oIx K) (cVar 7) (tC (.int 0))) tNil)) (tC (.int 8)))) (cTest (tOp (oEqG (gg K S)) (tOp oMod (tOp (oIx K) (cVar 2) (tC (.int 0))) (tC (.int 3))) (tC (.int 0))))))
  (tAsg (tOp (oAdd K) (tOp (oIx K) (cVar 7) (tC (.int 0))) (tOp (oIx K) (cVar 3) (tOp oMod (tOp (oIx K) (cVar 2) (tC (.int 1))) (tC (.int 26))))) (gSub (cVar 7) (tC (.int 1)) oSet))
  tNext)
  (tRet (cVar 7))))))))))
theorem e__law_names (K : PySem.W.Frag) (S : Str → Sp) (W : WX) : tBody (tS (gg K S) 40 d__law_names.N (defScope d__law_names.st)) (defBody d__law_names.st) W = r__law_names K S W := by kernel_rfl
def r__law_seen (K : PySem.W.Frag) (S : Str → Sp) (W : WX) : TS :=
  (tSeq (tAsg (tOp (oAdd K) (tOp (oIx K) (mC (gg K S) "get" 2 0 [] (cVar 0) (tCons (cVar 1) (tCons (tTup (tCons (tC (.int 0)) (tCons (tC (.int 0)) tNil))) tNil)) tNil W) (tC (.int 0))) (tC (.int 1))) (gName 2))
  (tSeq (tAsg (tTup (tCons (cVar 2) (tCons (tC (.int 5)) tNil))) (gSub (cVar 0) (cVar 1) oSet))
  (tRet (cVar 2))))
theorem e__law_seen (K : PySem.W.Frag) (S : Str → Sp) (W : WX) : tBody (tS (gg K S) 40 d__law_seen.N (defScope d__law_seen.st)) (defBody d__law_seen.st) W = r__law_seen K S W := by kernel_rfl
def r__law_turned (K : PySem.W.Frag) (S : Str → Sp) (W : WX) : TS :=
  (tSeq (tAsg (tCB (bSorted K) (tCons (cLcL (cIter K (frzE (cVar 0))) (gName 2) (cTest (tOp (oEqG (gg K S)) (tOp (oIx K) (tOp (oIx K) (cVar 0) (cVar 2)) (tC (.int 1))) (tC (.int 1)))) (cVar 2) [2]) tNil)) (gName 1))
  (tSeq (orL (cFor (cIter K (frzE (tCB (bList K) (tCons (cVar 0) tNil)))) (gName 2)
  (tSeq (tAsg (tTup (tCons (tOp (oIx K) (tOp (oIx K) (cVar 0) (cVar 2)) (tC (.int 0))) (tCons (tOp oSub (tOp (oIx K) (tOp (oIx K) (cVar 0) (cVar 2)) (tC (.int 1))) (tC (.int 1))) tNil))) (gSub (cVar 0) (cVar 2) oSet))
  (tIfS (cTest (tOp (oIn K false) (cVar 2) (cVar 1)))
  (tDrop (mC (gg K S) "pop" 1 0 [] (cVar 0) (tCons (cVar 2) tNil) tNil W))
  tNext))))
  (tRet (cVar 1))))
theorem e__law_turned (K : PySem.W.Frag) (S : Str → Sp) (W : WX) : tBody (tS (gg K S) 40 d__law_turned.N (defScope d__law_turned.st)) (defBody d__law_turned.st) W = r__law_turned K S W := by kernel_rfl
def r__law_told (K : PySem.W.Frag) (S : Str → Sp) (W : WX) : TS :=
  (tSeq (tAsg tDNewK (gName 1))
  (tSeq (orL (cFor (cIter K (frzE (tCB (bSorted K) (tCons (cVar 0) tNil)))) (gName 2)
  (tAsg (tOp (oIx K) (cVar 0) (cVar 2)) (gSub (cVar 1) (cVar 2) oSet))))
  (tRet (cVar 1))))
theorem e__law_told (K : PySem.W.Frag) (S : Str → Sp) (W : WX) : tBody (tS (gg K S) 40 d__law_told.N (defScope d__law_told.st)) (defBody d__law_told.st) W = r__law_told K S W := by kernel_rfl
def r__law_right (K : PySem.W.Frag) (S : Str → Sp) (W : WX) : TS :=
  (tSeq (tAsg (mC (gg K S) "told" 0 0 [] (cVar 0) tNil tNil W) (gName 3))
  (tSeq (tIfS (tOr (tNot (cTru K (cCall (S "_law_alike") 2 0 (fun vs _ => vs) (tCons (cVar 3) (tCons (cCall (S "_law_told") 1 0 (fun vs _ => vs) (tCons (cVar 1) tNil) tNil W) tNil)) tNil W))) (tOr (cTest (tOp (oNeG (gg K S)) (tCB (bLenG (gg K S)) (tCons (cVar 0) tNil)) (tCB (bLenG (gg K S)) (tCons (cVar 1) tNil)))) (cTest (tOp (oNeG (gg K S)) (tCB (bBoolG (gg K S)) (tCons (cVar 0) tNil)) (tOp (oNeG (gg K S)) (cVar 1) tDNewK)))))
  (tRet (tC (.bl false)))
  tNext)
  (tSeq (tDrop (mC (gg K S) "clear" 0 0 [] (cVar 3) tNil tNil W))
  (tSeq (orL (tAsg (cLc (cIter K (frzE (tCB (bSorted K) (tCons (cVar 1) tNil)))) (gName 5) tYes (tOp (oAdd K) (tOp (oAdd K) (tOp (oAdd K) (tOp (oAdd K) (cVar 5) (tC (.str " "))) (tCB (bStrG (gg K S)) (tCons (tOp (oIx K) (tOp (oIx K) (cVar 1) (cVar 5)) (tC (.int 0))) tNil))) (tC (.str " "))) (tCB (bStrG (gg K S)) (tCons (tOp (oIx K) (tOp (oIx K) (cVar 1) (cVar 5)) (tC (.int 1))) tNil))) [5]) (gName 4)))
  (tSeq (tIfS (tNot (cTru K (cCall (S "_law_alike") 2 0 (fun vs _ => vs) (tCons (tCB (bStrG (gg K S)) (tCons (cVar 0) tNil)) (tCons (mC (gg K S) "join" 1 0 [] (tC (.str "; ")) (tCons (cVar 4) tNil) tNil W) tNil)) tNil W)))
  (tRet (tC (.bl false)))
  tNext)
  (tSeq (orL (cFor (cIter K (frzE (cVar 2))) (gName 5)
  (tSeq (tAsg (tOp (oIx K) (mC (gg K S) "get" 2 0 [] (cVar 1) (tCons (cVar 5) (tCons (tTup (tCons (tC (.int 0)) (tCons (tC (.int 0)) tNil))) tNil)) tNil W) (tC (.int 0))) (gName 7))
  (tIfS (tOr (tNot (cTru K (cCall (S "_law_alike") 2 0 (fun vs _ => vs) (tCons (mC (gg K S) "passes" 1 0 [] (cVar 0) (tCons (cVar 5) tNil) tNil W) (tCons (tOp oGt (cVar 7) (tC (.int 2))) tNil)) tNil W))) (tNot (cTru K (cCall (S "_law_alike") 2 0 (fun vs _ => vs) (tCons (mC (gg K S) "count_of" 1 0 [] (cVar 0) (tCons (cVar 5) tNil) tNil W) (tCons (cVar 7) tNil)) tNil W))))
  (tRet (tC (.bl false)))
  tNext))))
  (tSeq (orL (cFor (cIter K (frzE (tLst (tCons (tC .non) (tCons (tC (.int 0)) (tCons (tC (.str "")) (tCons (tC (.str "A")) (tCons (tLst (tCons (tOp (oIx K) (cVar 2) (tC (.int 0))) tNil)) (tCons (tTup (tCons (tOp (oIx K) (cVar 2) (tC (.int 0))) tNil)) (tCons (tC (.bl true)) tNil)))))))))) (gName 6)
  (tIfS (tNot (cTru K (cCall (S "_law_alike") 2 0 (fun vs _ => vs) (tCons (mC (gg K S) "passes" 1 0 [] (cVar 0) (tCons (cVar 6) tNil) tNil W) (tCons (tC (.bl false)) tNil)) tNil W)))
  (tRet (tC (.bl false)))
  tNext)))
  (tRet (cCall (S "_law_alike") 2 0 (fun vs _ => vs) (tCons (mC (gg K S) "told" 0 0 [] (cVar 0) tNil tNil W) (tCons (cCall (S "_law_told") 1 0 (fun vs _ => vs) (tCons (cVar 1) tNil) tNil W) tNil)) tNil W)))))))))
theorem e__law_right (K : PySem.W.Frag) (S : Str → Sp) (W : WX) : tBody (tS (gg K S) 40 d__law_right.N (defScope d__law_right.st)) (defBody d__law_right.st) W = r__law_right K S W := by kernel_rfl
def r_law (K : PySem.W.Frag) (S : Str → Sp) (W : WX) : TS :=
  (tSeq (tAsg (cCall (S "_law_names") 2 0 (fun vs _ => vs) (tCons (cCall (S "_law_cell_at") 2 0 (fun vs _ => vs) (tCons (cVar 0) (tCons (tC (.int 0)) tNil)) tNil W) (tCons (tC (.int 5)) tNil)) tNil W) (gName 1))
  (tSeq (tAsg (tLst (tCons (cMk (He.ga K "Wrongs") 0 0 (fun vs _ => vs) (S "Wrongs.__init__") tNil tNil W) (tCons (cMk (He.ga K "Wrongs") 0 0 (fun vs _ => vs) (S "Wrongs.__init__") tNil tNil W) tNil))) (gName 2))
  (tSeq (tAsg (tLst (tCons tDNewK (tCons tDNewK tNil))) (gName 3))
  (tSeq (orL (cFor (cIter K (frzE (tSl (oSl K) (cVar 0) (cPart (tC (.int 1))) (cPart (tC (.int 62)))))) (gName 4)
  (tSeq (tAsg (tOp oMod (cVar 4) (tC (.int 2))) (gName 7))
  (tSeq (tAsg (tOp oMod (tOp oFdiv (cVar 4) (tC (.int 2))) (tC (.int 8))) (gName 8))
  (tSeq (tAsg (tOp (oIx K) (cVar 1) (tOp oMod (tOp oFdiv (cVar 4) (tC (.int 16))) (tC (.int 5)))) (gName 9))
  (tSeq (tIfS (cTest (tOp oLt (cVar 8) (tC (.int 4))))
  (tSeq (tAsg (mC (gg K S) "seen" 1 0 [] (tOp (oIx K) (cVar 2) (cVar 7)) (tCons (cVar 9) tNil) tNil W) (gName 10))
  (tIfS (tNot (cTru K (cCall (S "_law_alike") 2 0 (fun vs _ => vs) (tCons (cVar 10) (tCons (cCall (S "_law_seen") 2 0 (fun vs _ => vs) (tCons (tOp (oIx K) (cVar 3) (cVar 7)) (tCons (cVar 9) tNil)) tNil W) tNil)) tNil W)))
  (tRet (tC (.bl false)))
  tNext))
  (tIfS (cTest (tOp oLt (cVar 8) (tC (.int 7))))
  (tSeq (tAsg (mC (gg K S) "turn" 0 0 [] (tOp (oIx K) (cVar 2) (cVar 7)) tNil tNil W) (gName 10))
  (tSeq (tIfS (tNot (cTru K (cCall (S "_law_alike") 2 0 (fun vs _ => vs) (tCons (cVar 10) (tCons (cCall (S "_law_turned") 1 0 (fun vs _ => vs) (tCons (tOp (oIx K) (cVar 3) (cVar 7)) tNil) tNil W) tNil)) tNil W)))
  (tRet (tC (.bl false)))
  tNext)
  (tDrop (mC (gg K S) "append" 1 0 [] (cVar 10) (tCons (cVar 9) tNil) tNil W))))
  (tSeq (tAsg (tOp (oIx K) (cVar 2) (cVar 7)) (gName 11))
  (tSeq (tAsg (mC (gg K S) "copied" 0 0 [] (cVar 11) tNil tNil W) (gSub (cVar 2) (cVar 7) oSet))
  (tSeq (tAsg (cCall (S "_law_told") 1 0 (fun vs _ => vs) (tCons (tOp (oIx K) (cVar 3) (cVar 7)) tNil) tNil W) (gName 12))
  (tSeq (tDrop (mC (gg K S) "seen" 1 0 [] (tOp (oIx K) (cVar 2) (cVar 7)) (tCons (cVar 9) tNil) tNil W))
  (tSeq (tDrop (cCall (S "_law_seen") 2 0 (fun vs _ => vs) (tCons (tOp (oIx K) (cVar 3) (cVar 7)) (tCons (cVar 9) tNil)) tNil W))
  (tSeq (tIfS (tOr (tNot (cTru K (cCall (S "_law_alike") 2 0 (fun vs _ => vs) (tCons (mC (gg K S) "told" 0 0 [] (cVar 11) tNil tNil W) (tCons (cVar 12) tNil)) tNil W))) (cTest (tOp (oEqG (gg K S)) (cVar 11) (tOp (oIx K) (cVar 2) (cVar 7)))))
  (tRet (tC (.bl false)))
  tNext)
  (tDrop (mC (gg K S) "turn" 0 0 [] (cVar 11) tNil tNil W))))))))))
  (tSeq (orL (cFor (cRng1 (tCons (tC (.int 2)) tNil)) (gName 6)
  (tIfS (tNot (cTru K (cCall (S "_law_right") 3 0 (fun vs _ => vs) (tCons (tOp (oIx K) (cVar 2) (cVar 6)) (tCons (tOp (oIx K) (cVar 3) (cVar 6)) (tCons (cVar 1) tNil))) tNil W)))
  (tRet (tC (.bl false)))
  tNext)))
  (tIfS (cTest (tOp (oNeG (gg K S)) (tOp (oEqG (gg K S)) (tOp (oIx K) (cVar 2) (tC (.int 0))) (tOp (oIx K) (cVar 2) (tC (.int 1)))) (tOp (oEqG (gg K S)) (cCall (S "_law_told") 1 0 (fun vs _ => vs) (tCons (tOp (oIx K) (cVar 3) (tC (.int 0))) tNil) tNil W) (cCall (S "_law_told") 1 0 (fun vs _ => vs) (tCons (tOp (oIx K) (cVar 3) (tC (.int 1))) tNil) tNil W))))
  (tRet (tC (.bl false)))
  tNext))))))))
  (tSeq (orL (cFor (cIter K (frzE (tLst (tCons (tC .non) (tCons (tC (.int 0)) (tCons tDNewK (tCons (mC (gg K S) "told" 0 0 [] (tOp (oIx K) (cVar 2) (tC (.int 0))) tNil tNil W) (tCons (tCB (bStrG (gg K S)) (tCons (tOp (oIx K) (cVar 2) (tC (.int 0))) tNil)) tNil)))))))) (gName 5)
  (tIfS (tOr (cTest (tOp (oEqG (gg K S)) (tOp (oIx K) (cVar 2) (tC (.int 0))) (cVar 5))) (tNot (cTest (tOp (oNeG (gg K S)) (tOp (oIx K) (cVar 2) (tC (.int 0))) (cVar 5)))))
  (tRet (tC (.bl false)))
  tNext)))
  (tSeq (orL (cFor (cRng1 (tCons (tC (.int 5)) tNil)) (gName 6)
  (tIfS (tNot (cTru K (cCall (S "_law_alike") 2 0 (fun vs _ => vs) (tCons (mC (gg K S) "turn" 0 0 [] (tOp (oIx K) (cVar 2) (tC (.int 0))) tNil tNil W) (tCons (cCall (S "_law_turned") 1 0 (fun vs _ => vs) (tCons (tOp (oIx K) (cVar 3) (tC (.int 0))) tNil) tNil W) tNil)) tNil W)))
  (tRet (tC (.bl false)))
  tNext)))
  (tRet (cAnd K (tOp (oEqG (gg K S)) (tOp (oIx K) (cVar 2) (tC (.int 0))) (cMk (He.ga K "Wrongs") 0 0 (fun vs _ => vs) (S "Wrongs.__init__") tNil tNil W)) (cAnd K (tOp (oEqG (gg K S)) (tCB (bLenG (gg K S)) (tCons (tOp (oIx K) (cVar 2) (tC (.int 0))) tNil)) (tC (.int 0))) (cCall (S "_law_right") 3 0 (fun vs _ => vs) (tCons (tOp (oIx K) (cVar 2) (tC (.int 1))) (tCons (tOp (oIx K) (cVar 3) (tC (.int 1))) (tCons (cVar 1) tNil))) tNil W))))))))))
theorem e_law (K : PySem.W.Frag) (S : Str → Sp) (W : WX) : tBody (tS (gg K S) 40 d_law.N (defScope d_law.st)) (defBody d_law.st) W = r_law K S W := by kernel_rfl
abbrev SP (K : PySem.W.Frag) (n : Nat) : Str → Sp := spAt (y.tb K) 40 y.ds n
theorem o_is_name {K : PySem.W.Frag} {n : Nat} {v0 : V} {H : Hp} {Q : VK} {E : XK} (h : r_is_name K (SP K n) (fun cls dd _ H1 => E cls dd H1) ⟨fun _ H1 => Q .non H1, Q, fun _ _ => False, fun _ _ => False⟩ [some v0, none] H) : SP K (n + 1) "is_name" [v0] H Q E := by
  unfold SP
  rw [spAt_succ (d := d_is_name) rfl]
  refine ⟨rfl, ?_⟩
  rw [show gOf (y.tb K) (spAt (y.tb K) 40 y.ds n) = gg K (SP K n) from rfl, e_is_name]
  exact h
theorem o_need_name {K : PySem.W.Frag} {n : Nat} {v0 : V} {H : Hp} {Q : VK} {E : XK} (h : r_need_name K (SP K n) (fun cls dd _ H1 => E cls dd H1) ⟨fun _ H1 => Q .non H1, Q, fun _ _ => False, fun _ _ => False⟩ [some v0] H) : SP K (n + 1) "need_name" [v0] H Q E := by
  unfold SP
  rw [spAt_succ (d := d_need_name) rfl]
  refine ⟨rfl, ?_⟩
  rw [show gOf (y.tb K) (spAt (y.tb K) 40 y.ds n) = gg K (SP K n) from rfl, e_need_name]
  exact h
theorem o_Wrongs___init__ {K : PySem.W.Frag} {n : Nat} {v0 : V} {H : Hp} {Q : VK} {E : XK} (h : r_Wrongs___init__ K (SP K n) (fun cls dd _ H1 => E cls dd H1) ⟨fun _ H1 => Q .non H1, Q, fun _ _ => False, fun _ _ => False⟩ [some v0] H) : SP K (n + 1) "Wrongs.__init__" [v0] H Q E := by
  unfold SP
  rw [spAt_succ (d := d_Wrongs___init__) rfl]
  refine ⟨rfl, ?_⟩
  rw [show gOf (y.tb K) (spAt (y.tb K) 40 y.ds n) = gg K (SP K n) from rfl, e_Wrongs___init__]
  exact h
theorem o_Wrongs___len__ {K : PySem.W.Frag} {n : Nat} {v0 : V} {H : Hp} {Q : VK} {E : XK} (h : r_Wrongs___len__ K (SP K n) (fun cls dd _ H1 => E cls dd H1) ⟨fun _ H1 => Q .non H1, Q, fun _ _ => False, fun _ _ => False⟩ [some v0] H) : SP K (n + 1) "Wrongs.__len__" [v0] H Q E := by
  unfold SP
  rw [spAt_succ (d := d_Wrongs___len__) rfl]
  refine ⟨rfl, ?_⟩
  rw [show gOf (y.tb K) (spAt (y.tb K) 40 y.ds n) = gg K (SP K n) from rfl, e_Wrongs___len__]
  exact h
theorem o_Wrongs___eq__ {K : PySem.W.Frag} {n : Nat} {v0 v1 : V} {H : Hp} {Q : VK} {E : XK} (h : r_Wrongs___eq__ K (SP K n) (fun cls dd _ H1 => E cls dd H1) ⟨fun _ H1 => Q .non H1, Q, fun _ _ => False, fun _ _ => False⟩ [some v0, some v1] H) : SP K (n + 1) "Wrongs.__eq__" [v0, v1] H Q E := by
  unfold SP
  rw [spAt_succ (d := d_Wrongs___eq__) rfl]
  refine ⟨rfl, ?_⟩
  rw [show gOf (y.tb K) (spAt (y.tb K) 40 y.ds n) = gg K (SP K n) from rfl, e_Wrongs___eq__]
  exact h
theorem o_Wrongs___str__ {K : PySem.W.Frag} {n : Nat} {v0 : V} {H : Hp} {Q : VK} {E : XK} (h : r_Wrongs___str__ K (SP K n) (fun cls dd _ H1 => E cls dd H1) ⟨fun _ H1 => Q .non H1, Q, fun _ _ => False, fun _ _ => False⟩ [some v0, none, none, none] H) : SP K (n + 1) "Wrongs.__str__" [v0] H Q E := by
  unfold SP
  rw [spAt_succ (d := d_Wrongs___str__) rfl]
  refine ⟨rfl, ?_⟩
  rw [show gOf (y.tb K) (spAt (y.tb K) 40 y.ds n) = gg K (SP K n) from rfl, e_Wrongs___str__]
  exact h
theorem o_Wrongs_seen {K : PySem.W.Frag} {n : Nat} {v0 v1 : V} {H : Hp} {Q : VK} {E : XK} (h : r_Wrongs_seen K (SP K n) (fun cls dd _ H1 => E cls dd H1) ⟨fun _ H1 => Q .non H1, Q, fun _ _ => False, fun _ _ => False⟩ [some v0, some v1, none] H) : SP K (n + 1) "Wrongs.seen" [v0, v1] H Q E := by
  unfold SP
  rw [spAt_succ (d := d_Wrongs_seen) rfl]
  refine ⟨rfl, ?_⟩
  rw [show gOf (y.tb K) (spAt (y.tb K) 40 y.ds n) = gg K (SP K n) from rfl, e_Wrongs_seen]
  exact h
theorem o_Wrongs_turn {K : PySem.W.Frag} {n : Nat} {v0 : V} {H : Hp} {Q : VK} {E : XK} (h : r_Wrongs_turn K (SP K n) (fun cls dd _ H1 => E cls dd H1) ⟨fun _ H1 => Q .non H1, Q, fun _ _ => False, fun _ _ => False⟩ [some v0, none, none, none, none] H) : SP K (n + 1) "Wrongs.turn" [v0] H Q E := by
  unfold SP
  rw [spAt_succ (d := d_Wrongs_turn) rfl]
  refine ⟨rfl, ?_⟩
  rw [show gOf (y.tb K) (spAt (y.tb K) 40 y.ds n) = gg K (SP K n) from rfl, e_Wrongs_turn]
  exact h
theorem o_Wrongs_passes {K : PySem.W.Frag} {n : Nat} {v0 v1 : V} {H : Hp} {Q : VK} {E : XK} (h : r_Wrongs_passes K (SP K n) (fun cls dd _ H1 => E cls dd H1) ⟨fun _ H1 => Q .non H1, Q, fun _ _ => False, fun _ _ => False⟩ [some v0, some v1] H) : SP K (n + 1) "Wrongs.passes" [v0, v1] H Q E := by
  unfold SP
  rw [spAt_succ (d := d_Wrongs_passes) rfl]
  refine ⟨rfl, ?_⟩
  rw [show gOf (y.tb K) (spAt (y.tb K) 40 y.ds n) = gg K (SP K n) from rfl, e_Wrongs_passes]
  exact h
theorem o_Wrongs_count_of {K : PySem.W.Frag} {n : Nat} {v0 v1 : V} {H : Hp} {Q : VK} {E : XK} (h : r_Wrongs_count_of K (SP K n) (fun cls dd _ H1 => E cls dd H1) ⟨fun _ H1 => Q .non H1, Q, fun _ _ => False, fun _ _ => False⟩ [some v0, some v1] H) : SP K (n + 1) "Wrongs.count_of" [v0, v1] H Q E := by
  unfold SP
  rw [spAt_succ (d := d_Wrongs_count_of) rfl]
  refine ⟨rfl, ?_⟩
  rw [show gOf (y.tb K) (spAt (y.tb K) 40 y.ds n) = gg K (SP K n) from rfl, e_Wrongs_count_of]
  exact h
theorem o_Wrongs_told {K : PySem.W.Frag} {n : Nat} {v0 : V} {H : Hp} {Q : VK} {E : XK} (h : r_Wrongs_told K (SP K n) (fun cls dd _ H1 => E cls dd H1) ⟨fun _ H1 => Q .non H1, Q, fun _ _ => False, fun _ _ => False⟩ [some v0, none] H) : SP K (n + 1) "Wrongs.told" [v0] H Q E := by
  unfold SP
  rw [spAt_succ (d := d_Wrongs_told) rfl]
  refine ⟨rfl, ?_⟩
  rw [show gOf (y.tb K) (spAt (y.tb K) 40 y.ds n) = gg K (SP K n) from rfl, e_Wrongs_told]
  exact h
theorem o_Wrongs_copied {K : PySem.W.Frag} {n : Nat} {v0 : V} {H : Hp} {Q : VK} {E : XK} (h : r_Wrongs_copied K (SP K n) (fun cls dd _ H1 => E cls dd H1) ⟨fun _ H1 => Q .non H1, Q, fun _ _ => False, fun _ _ => False⟩ [some v0, none] H) : SP K (n + 1) "Wrongs.copied" [v0] H Q E := by
  unfold SP
  rw [spAt_succ (d := d_Wrongs_copied) rfl]
  refine ⟨rfl, ?_⟩
  rw [show gOf (y.tb K) (spAt (y.tb K) 40 y.ds n) = gg K (SP K n) from rfl, e_Wrongs_copied]
  exact h
theorem o__law_cell_at {K : PySem.W.Frag} {n : Nat} {v0 v1 : V} {H : Hp} {Q : VK} {E : XK} (h : r__law_cell_at K (SP K n) (fun cls dd _ H1 => E cls dd H1) ⟨fun _ H1 => Q .non H1, Q, fun _ _ => False, fun _ _ => False⟩ [some v0, some v1] H) : SP K (n + 1) "_law_cell_at" [v0, v1] H Q E := by
  unfold SP
  rw [spAt_succ (d := d__law_cell_at) rfl]
  refine ⟨rfl, ?_⟩
  rw [show gOf (y.tb K) (spAt (y.tb K) 40 y.ds n) = gg K (SP K n) from rfl, e__law_cell_at]
  exact h
theorem o__law_row {K : PySem.W.Frag} {n : Nat} {v0 v1 v2 : V} {H : Hp} {Q : VK} {E : XK} (h : r__law_row K (SP K n) (fun cls dd _ H1 => E cls dd H1) ⟨fun _ H1 => Q .non H1, Q, fun _ _ => False, fun _ _ => False⟩ [some v0, some v1, some v2, none, none, none, none] H) : SP K (n + 1) "_law_row" [v0, v1, v2] H Q E := by
  unfold SP
  rw [spAt_succ (d := d__law_row) rfl]
  refine ⟨rfl, ?_⟩
  rw [show gOf (y.tb K) (spAt (y.tb K) 40 y.ds n) = gg K (SP K n) from rfl, e__law_row]
  exact h
theorem o__law_alike {K : PySem.W.Frag} {n : Nat} {v0 v1 : V} {H : Hp} {Q : VK} {E : XK} (h : r__law_alike K (SP K n) (fun cls dd _ H1 => E cls dd H1) ⟨fun _ H1 => Q .non H1, Q, fun _ _ => False, fun _ _ => False⟩ [some v0, some v1, none, none] H) : SP K (n + 1) "_law_alike" [v0, v1] H Q E := by
  unfold SP
  rw [spAt_succ (d := d__law_alike) rfl]
  refine ⟨rfl, ?_⟩
  rw [show gOf (y.tb K) (spAt (y.tb K) 40 y.ds n) = gg K (SP K n) from rfl, e__law_alike]
  exact h
theorem o__law_names {K : PySem.W.Frag} {n : Nat} {v0 v1 : V} {H : Hp} {Q : VK} {E : XK} (h : r__law_names K (SP K n) (fun cls dd _ H1 => E cls dd H1) ⟨fun _ H1 => Q .non H1, Q, fun _ _ => False, fun _ _ => False⟩ [some v0, some v1, none, none, none, none, none, none, none, none, none] H) : SP K (n + 1) "_law_names" [v0, v1] H Q E := by
  unfold SP
  rw [spAt_succ (d := d__law_names) rfl]
  refine ⟨rfl, ?_⟩
  rw [show gOf (y.tb K) (spAt (y.tb K) 40 y.ds n) = gg K (SP K n) from rfl, e__law_names]
  exact h
theorem o__law_seen {K : PySem.W.Frag} {n : Nat} {v0 v1 : V} {H : Hp} {Q : VK} {E : XK} (h : r__law_seen K (SP K n) (fun cls dd _ H1 => E cls dd H1) ⟨fun _ H1 => Q .non H1, Q, fun _ _ => False, fun _ _ => False⟩ [some v0, some v1, none] H) : SP K (n + 1) "_law_seen" [v0, v1] H Q E := by
  unfold SP
  rw [spAt_succ (d := d__law_seen) rfl]
  refine ⟨rfl, ?_⟩
  rw [show gOf (y.tb K) (spAt (y.tb K) 40 y.ds n) = gg K (SP K n) from rfl, e__law_seen]
  exact h
theorem o__law_turned {K : PySem.W.Frag} {n : Nat} {v0 : V} {H : Hp} {Q : VK} {E : XK} (h : r__law_turned K (SP K n) (fun cls dd _ H1 => E cls dd H1) ⟨fun _ H1 => Q .non H1, Q, fun _ _ => False, fun _ _ => False⟩ [some v0, none, none] H) : SP K (n + 1) "_law_turned" [v0] H Q E := by
  unfold SP
  rw [spAt_succ (d := d__law_turned) rfl]
  refine ⟨rfl, ?_⟩
  rw [show gOf (y.tb K) (spAt (y.tb K) 40 y.ds n) = gg K (SP K n) from rfl, e__law_turned]
  exact h
theorem o__law_told {K : PySem.W.Frag} {n : Nat} {v0 : V} {H : Hp} {Q : VK} {E : XK} (h : r__law_told K (SP K n) (fun cls dd _ H1 => E cls dd H1) ⟨fun _ H1 => Q .non H1, Q, fun _ _ => False, fun _ _ => False⟩ [some v0, none, none] H) : SP K (n + 1) "_law_told" [v0] H Q E := by
  unfold SP
  rw [spAt_succ (d := d__law_told) rfl]
  refine ⟨rfl, ?_⟩
  rw [show gOf (y.tb K) (spAt (y.tb K) 40 y.ds n) = gg K (SP K n) from rfl, e__law_told]
  exact h
theorem o__law_right {K : PySem.W.Frag} {n : Nat} {v0 v1 v2 : V} {H : Hp} {Q : VK} {E : XK} (h : r__law_right K (SP K n) (fun cls dd _ H1 => E cls dd H1) ⟨fun _ H1 => Q .non H1, Q, fun _ _ => False, fun _ _ => False⟩ [some v0, some v1, some v2, none, none, none, none, none] H) : SP K (n + 1) "_law_right" [v0, v1, v2] H Q E := by
  unfold SP
  rw [spAt_succ (d := d__law_right) rfl]
  refine ⟨rfl, ?_⟩
  rw [show gOf (y.tb K) (spAt (y.tb K) 40 y.ds n) = gg K (SP K n) from rfl, e__law_right]
  exact h
theorem o_law {K : PySem.W.Frag} {n : Nat} {v0 : V} {H : Hp} {Q : VK} {E : XK} (h : r_law K (SP K n) (fun cls dd _ H1 => E cls dd H1) ⟨fun _ H1 => Q .non H1, Q, fun _ _ => False, fun _ _ => False⟩ [some v0, none, none, none, none, none, none, none, none, none, none, none, none] H) : SP K (n + 1) "law" [v0] H Q E := by
  unfold SP
  rw [spAt_succ (d := d_law) rfl]
  refine ⟨rfl, ?_⟩
  rw [show gOf (y.tb K) (spAt (y.tb K) 40 y.ds n) = gg K (SP K n) from rfl, e_law]
  exact h
theorem c_append_1 (K : PySem.W.Frag) (S : Str → Sp) : mf (gg K S) "append" 1 [] = [] := by kernel_rfl
theorem c_clear_0 (K : PySem.W.Frag) (S : Str → Sp) : mf (gg K S) "clear" 0 [] = [] := by kernel_rfl
theorem c_copied_0 (K : PySem.W.Frag) (S : Str → Sp) : mf (gg K S) "copied" 0 [] = [⟨He.ga K "Wrongs", "copied", 0, [], fun vs _ => vs, S "Wrongs.copied"⟩] := by kernel_rfl
theorem c_count_of_1 (K : PySem.W.Frag) (S : Str → Sp) : mf (gg K S) "count_of" 1 [] = [⟨He.ga K "Wrongs", "count_of", 1, [], fun vs _ => vs, S "Wrongs.count_of"⟩] := by kernel_rfl
theorem c_get_2 (K : PySem.W.Frag) (S : Str → Sp) : mf (gg K S) "get" 2 [] = [] := by kernel_rfl
theorem c_items_0 (K : PySem.W.Frag) (S : Str → Sp) : mf (gg K S) "items" 0 [] = [] := by kernel_rfl
theorem c_join_1 (K : PySem.W.Frag) (S : Str → Sp) : mf (gg K S) "join" 1 [] = [] := by kernel_rfl
theorem c_passes_1 (K : PySem.W.Frag) (S : Str → Sp) : mf (gg K S) "passes" 1 [] = [⟨He.ga K "Wrongs", "passes", 1, [], fun vs _ => vs, S "Wrongs.passes"⟩] := by kernel_rfl
theorem c_pop_1 (K : PySem.W.Frag) (S : Str → Sp) : mf (gg K S) "pop" 1 [] = [] := by kernel_rfl
theorem c_seen_1 (K : PySem.W.Frag) (S : Str → Sp) : mf (gg K S) "seen" 1 [] = [⟨He.ga K "Wrongs", "seen", 1, [], fun vs _ => vs, S "Wrongs.seen"⟩] := by kernel_rfl
theorem c_told_0 (K : PySem.W.Frag) (S : Str → Sp) : mf (gg K S) "told" 0 [] = [⟨He.ga K "Wrongs", "told", 0, [], fun vs _ => vs, S "Wrongs.told"⟩] := by kernel_rfl
theorem c_turn_0 (K : PySem.W.Frag) (S : Str → Sp) : mf (gg K S) "turn" 0 [] = [⟨He.ga K "Wrongs", "turn", 0, [], fun vs _ => vs, S "Wrongs.turn"⟩] := by kernel_rfl
theorem cs_len (K : PySem.W.Frag) (S : Str → Sp) : cands (gg K S) "__len__" 0 = [⟨He.ga K "Wrongs", "__len__", 0, [], fun vs _ => vs, S "Wrongs.__len__"⟩] := by kernel_rfl
theorem cs_eq (K : PySem.W.Frag) (S : Str → Sp) : cands (gg K S) "__eq__" 1 = [⟨He.ga K "Wrongs", "__eq__", 1, [], fun vs _ => vs, S "Wrongs.__eq__"⟩] := by kernel_rfl
theorem cs_str (K : PySem.W.Frag) (S : Str → Sp) : cands (gg K S) "__str__" 0 = [⟨He.ga K "Wrongs", "__str__", 0, [], fun vs _ => vs, S "Wrongs.__str__"⟩] := by kernel_rfl

end WR.L
set_option Elab.async false
set_option linter.all false
set_option maxRecDepth 100000
set_option maxHeartbeats 4000000
namespace WR.L
open PySem PySem.Spec PyProof.Rows L2
section
variable {K : PySem.W.Frag} {n : Nat} {H : Hp} {Q : VK} {E : XK}
theorem s_cell {a : Addr} {ns : List Int} {k : Nat} (hl : look K H a = some (.lst (ns.map V.int))) (h : Q (.int (ns.getD k 0)) H) : SP K (n+1) "_law_cell_at" [.ref a, .int k] H Q E := by
  refine o__law_cell_at ?_
  simp only [r__law_cell_at, tSeq, tIfS, tNext, tRet, tRetN, tDrop, tAsg, tC, cVar, tOp, tCB, tCons, tNil, tTup, tLst, tIf, tAnd, tOr, tNot, cTest, cTru, oTru, cAnd, cOr, cNot, cUn, cChain, gName, cTupG, gCons, gNil, gSub, oLt, oLe, oGt, oGe, oIs, oIsNot, oSub, oMul, oFdiv, oMod, oPow, cPar, cPar3, cAug, tDNewK, cCall, cAttr, frzE, List.mem_singleton, List.lookup_cons_self, List.getElem?_cons_zero, List.getElem?_cons_succ, List.set_cons_zero, List.set_cons_succ, Option.some.injEq, reduceCtorEq, if_true, if_false, Bool.true_eq_false, Bool.false_eq_true, decide_eq_true_eq, ite_true, ite_false, ↓reduceIte, List.length_cons, List.length_nil, true_and, and_true, exists_eq_left', exists_eq_left, List.cons.injEq]
  rw [len_lst rfl hl]
  simp only [tSeq, tIfS, tNext, tRet, tRetN, tDrop, tAsg, tC, cVar, tOp, tCB, tCons, tNil, tTup, tLst, tIf, tAnd, tOr, tNot, cTest, cTru, oTru, cAnd, cOr, cNot, cUn, cChain, gName, cTupG, gCons, gNil, gSub, oLt, oLe, oGt, oGe, oIs, oIsNot, oSub, oMul, oFdiv, oMod, oPow, cPar, cPar3, cAug, tDNewK, cCall, cAttr, frzE, List.mem_singleton, List.lookup_cons_self, List.getElem?_cons_zero, List.getElem?_cons_succ, List.set_cons_zero, List.set_cons_succ, Option.some.injEq, reduceCtorEq, if_true, if_false, Bool.true_eq_false, Bool.false_eq_true, decide_eq_true_eq, ite_true, ite_false, ↓reduceIte, List.length_cons, List.length_nil, true_and, and_true, exists_eq_left', exists_eq_left, List.cons.injEq, List.length_map]
  by_cases c : k < ns.length
  · rw [if_pos (by exact_mod_cast c), ix_lst hl (v := .int (ns.getD k 0)) (by rw [atI_nat]; simp [c])]
    exact h
  · rw [if_neg (by exact_mod_cast c)]
    simp [c] at h
    have : ns.getD k 0 = 0 := by simp [List.getD, c]
    simpa [this] using h
/-- a name: one to eight letters -/
def lets : List Nat := ("abcdefghijklmnopqrstuvwxyz" : Str).cps.toList
def isNm (s : Str) : Bool := decide (1 ≤ s.length) && (decide (s.length ≤ 8) && s.cps.toList.all fun c => decide (c ∈ lets))
/-- a thing of a known kind -/
def nmV : V → Bool
  | .str s => isNm s
  | _ => false
theorem kb_ss : kitB "str" "str" = some true := by kernel_rfl
theorem in_letter {c : Nat} {s : Str} {b : Bool} : oIn K b (.str ⟨#[c]⟩) (.str s) H Q = Q (.bl (b ^^ decide (c ∈ s.cps.toList))) H := rfl
/-- a comprehension over a text's signs, each told to be in a text or not -/
theorem lc_signs {i : Nat} {σ : St} {s t : Str} {b : Bool} (hs : s.length ≤ 1000)
    (h : ∀ D H', Ex H H' → H' D = some (.lst (s.cps.toList.map fun c => V.bl (b ^^ decide (c ∈ t.cps.toList)))) → Q (.ref D) H') (hσ : ∀ v, (σ.set i (some v))[i]? = some (some v)) (hw : ∀ v, wipe (σ.set i (some v)) [i] = wipe σ [i]) (hw2 : wipe σ [i] = σ) :
    cLcL (fun σ H R => R (Its s) H) (gName i) tYes (tOp (oIn K b) (cVar i) (tC (.str t))) [i] σ H Q := by
  refine .inl ?_
  intro D hD
  refine lpc_inv (n := s.cps.size) (fun j H' => Ex H H' ∧ H' D = some (.lst ((s.cps.toList.take j).map fun c => V.bl (b ^^ decide (c ∈ t.cps.toList))))) ?_ ?_ ⟨Ex.refl.new hD, by rw [upd_same]; rfl⟩
  · rintro H' ⟨h1, h2⟩
    refine ⟨Nat.le_refl _, h D H' h1 ?_⟩
    rw [h2]
    have e : s.cps.toList.take s.cps.size = s.cps.toList := List.take_of_length_le (by simp)
    rw [e]
  · rintro j H' hj ⟨h1, h2⟩ R hR
    refine ⟨hj, ?_⟩
    rintro x H2 ⟨rfl, c, hc, rfl⟩
    rw [hw2]
    refine ⟨(hw _).trans hw2, ?_⟩
    simp only [tYes, if_true, tOp, cVar, hσ, tC]
    rw [in_letter]
    refine ⟨_, h2, ?_, hR _ ⟨?_, ?_⟩⟩
    · rw [List.length_map, List.length_take]
      have := small1000 hs
      have e : s.cps.toList.length = s.length := by simp [Str.length]
      omega
    · intro a o e
      by_cases hb : a = D
      · subst hb; rw [hD] at e; cases e
      · rw [upd_ne hb]; exact h1 a o e
    · rw [upd_same]
      have e : s.cps.toList[j]? = some c := by simpa using hc
      rw [List.take_add_one, e]
      simp
theorem s_is_name {s : Str} (hs : s.length ≤ 1000) (h : ∀ H', Ex H H' → Q (.bl (isNm s)) H') : SP K (n+1) "is_name" [.str s] H Q E := by
  refine o_is_name ?_
  simp only [r_is_name, tSeq, tIfS, tNext, tRet, tRetN, tDrop, tAsg, tC, cVar, tOp, tCB, tCons, tNil, tTup, tLst, tIf, tAnd, tOr, tNot, cTest, cTru, oTru, cAnd, cOr, cNot, cUn, cChain, gName, cTupG, gCons, gNil, gSub, oLt, oLe, oGt, oGe, oIs, oIsNot, oSub, oMul, oFdiv, oMod, oPow, cPar, cPar3, cAug, tDNewK, cCall, cAttr, frzE, List.mem_singleton, List.lookup_cons_self, List.getElem?_cons_zero, List.getElem?_cons_succ, List.set_cons_zero, List.set_cons_succ, Option.some.injEq, reduceCtorEq, if_true, if_false, Bool.true_eq_false, Bool.false_eq_true, decide_eq_true_eq, ite_true, ite_false, ↓reduceIte, List.length_cons, List.length_nil, true_and, and_true, exists_eq_left', exists_eq_left, List.cons.injEq]
  rw [isi_ty (n := "str") rfl kb_ss]
  try simp only [tSeq, tIfS, tNext, tRet, tRetN, tDrop, tAsg, tC, cVar, tOp, tCB, tCons, tNil, tTup, tLst, tIf, tAnd, tOr, tNot, cTest, cTru, oTru, cAnd, cOr, cNot, cUn, cChain, gName, cTupG, gCons, gNil, gSub, oLt, oLe, oGt, oGe, oIs, oIsNot, oSub, oMul, oFdiv, oMod, oPow, cPar, cPar3, cAug, tDNewK, cCall, cAttr, frzE, List.mem_singleton, List.lookup_cons_self, List.getElem?_cons_zero, List.getElem?_cons_succ, List.set_cons_zero, List.set_cons_succ, Option.some.injEq, reduceCtorEq, if_true, if_false, Bool.true_eq_false, Bool.false_eq_true, decide_eq_true_eq, ite_true, ite_false, ↓reduceIte, List.length_cons, List.length_nil, true_and, and_true, exists_eq_left', exists_eq_left, List.cons.injEq]
  rw [len_str]
  refine ⟨Nat.le_of_lt (small1000 hs), ?_⟩
  try simp only [tSeq, tIfS, tNext, tRet, tRetN, tDrop, tAsg, tC, cVar, tOp, tCB, tCons, tNil, tTup, tLst, tIf, tAnd, tOr, tNot, cTest, cTru, oTru, cAnd, cOr, cNot, cUn, cChain, gName, cTupG, gCons, gNil, gSub, oLt, oLe, oGt, oGe, oIs, oIsNot, oSub, oMul, oFdiv, oMod, oPow, cPar, cPar3, cAug, tDNewK, cCall, cAttr, frzE, List.mem_singleton, List.lookup_cons_self, List.getElem?_cons_zero, List.getElem?_cons_succ, List.set_cons_zero, List.set_cons_succ, Option.some.injEq, reduceCtorEq, if_true, if_false, Bool.true_eq_false, Bool.false_eq_true, decide_eq_true_eq, ite_true, ite_false, ↓reduceIte, List.length_cons, List.length_nil, true_and, and_true, exists_eq_left', exists_eq_left, List.cons.injEq]
  unfold isNm at h
  by_cases h1 : 1 ≤ s.length
  · by_cases h8 : s.length ≤ 8
    · rw [decide_eq_true (by exact_mod_cast h1 : (1 : Int) ≤ (s.length : Int)), decide_eq_true (by exact_mod_cast h8 : (s.length : Int) ≤ 8)]
      try simp only [tSeq, tIfS, tNext, tRet, tRetN, tDrop, tAsg, tC, cVar, tOp, tCB, tCons, tNil, tTup, tLst, tIf, tAnd, tOr, tNot, cTest, cTru, oTru, cAnd, cOr, cNot, cUn, cChain, gName, cTupG, gCons, gNil, gSub, oLt, oLe, oGt, oGe, oIs, oIsNot, oSub, oMul, oFdiv, oMod, oPow, cPar, cPar3, cAug, tDNewK, cCall, cAttr, frzE, List.mem_singleton, List.lookup_cons_self, List.getElem?_cons_zero, List.getElem?_cons_succ, List.set_cons_zero, List.set_cons_succ, Option.some.injEq, reduceCtorEq, if_true, if_false, Bool.true_eq_false, Bool.false_eq_true, decide_eq_true_eq, ite_true, ite_false, ↓reduceIte, List.length_cons, List.length_nil, true_and, and_true, exists_eq_left', exists_eq_left, List.cons.injEq]
      refine lc_signs hs (fun D H' e hD => ?_) (fun v => rfl) (fun v => rfl) rfl
      refine ⟨D, s.cps.toList.map fun c => decide (c ∈ lets), rfl, ?_, ?_⟩
      · rw [look_of_lst hD, List.map_map]
        simp only [Bool.false_bne, Function.comp_def]
        rfl
      · have := h H' e
        rw [List.all_map]
        simpa [h1, h8, Function.comp_def] using this
    · rw [decide_eq_true (by exact_mod_cast h1 : (1 : Int) ≤ (s.length : Int)), decide_eq_false (by exact_mod_cast h8 : ¬ (s.length : Int) ≤ 8)]
      try simp only [tSeq, tIfS, tNext, tRet, tRetN, tDrop, tAsg, tC, cVar, tOp, tCB, tCons, tNil, tTup, tLst, tIf, tAnd, tOr, tNot, cTest, cTru, oTru, cAnd, cOr, cNot, cUn, cChain, gName, cTupG, gCons, gNil, gSub, oLt, oLe, oGt, oGe, oIs, oIsNot, oSub, oMul, oFdiv, oMod, oPow, cPar, cPar3, cAug, tDNewK, cCall, cAttr, frzE, List.mem_singleton, List.lookup_cons_self, List.getElem?_cons_zero, List.getElem?_cons_succ, List.set_cons_zero, List.set_cons_succ, Option.some.injEq, reduceCtorEq, if_true, if_false, Bool.true_eq_false, Bool.false_eq_true, decide_eq_true_eq, ite_true, ite_false, ↓reduceIte, List.length_cons, List.length_nil, true_and, and_true, exists_eq_left', exists_eq_left, List.cons.injEq]
      simpa [h8] using h H Ex.refl
  · rw [decide_eq_false (by exact_mod_cast h1 : ¬ (1 : Int) ≤ (s.length : Int))]
    try simp only [tSeq, tIfS, tNext, tRet, tRetN, tDrop, tAsg, tC, cVar, tOp, tCB, tCons, tNil, tTup, tLst, tIf, tAnd, tOr, tNot, cTest, cTru, oTru, cAnd, cOr, cNot, cUn, cChain, gName, cTupG, gCons, gNil, gSub, oLt, oLe, oGt, oGe, oIs, oIsNot, oSub, oMul, oFdiv, oMod, oPow, cPar, cPar3, cAug, tDNewK, cCall, cAttr, frzE, List.mem_singleton, List.lookup_cons_self, List.getElem?_cons_zero, List.getElem?_cons_succ, List.set_cons_zero, List.set_cons_succ, Option.some.injEq, reduceCtorEq, if_true, if_false, Bool.true_eq_false, Bool.false_eq_true, decide_eq_true_eq, ite_true, ite_false, ↓reduceIte, List.length_cons, List.length_nil, true_and, and_true, exists_eq_left', exists_eq_left, List.cons.injEq]
    simpa [h1] using h H Ex.refl
theorem s_is_name_o {v : V} {m : String} (hv : tyN K H v = some m) (hm : kitB m "str" = some false) (h : Q (.bl false) H) : SP K (n+1) "is_name" [v] H Q E := by
  refine o_is_name ?_
  simp only [r_is_name, tSeq, tIfS, tNext, tRet, tRetN, tDrop, tAsg, tC, cVar, tOp, tCB, tCons, tNil, tTup, tLst, tIf, tAnd, tOr, tNot, cTest, cTru, oTru, cAnd, cOr, cNot, cUn, cChain, gName, cTupG, gCons, gNil, gSub, oLt, oLe, oGt, oGe, oIs, oIsNot, oSub, oMul, oFdiv, oMod, oPow, cPar, cPar3, cAug, tDNewK, cCall, cAttr, frzE, List.mem_singleton, List.lookup_cons_self, List.getElem?_cons_zero, List.getElem?_cons_succ, List.set_cons_zero, List.set_cons_succ, Option.some.injEq, reduceCtorEq, if_true, if_false, Bool.true_eq_false, Bool.false_eq_true, decide_eq_true_eq, ite_true, ite_false, ↓reduceIte, List.length_cons, List.length_nil, true_and, and_true, exists_eq_left', exists_eq_left, List.cons.injEq]
  rw [isi_ty hv hm]
  try simp only [tSeq, tIfS, tNext, tRet, tRetN, tDrop, tAsg, tC, cVar, tOp, tCB, tCons, tNil, tTup, tLst, tIf, tAnd, tOr, tNot, cTest, cTru, oTru, cAnd, cOr, cNot, cUn, cChain, gName, cTupG, gCons, gNil, gSub, oLt, oLe, oGt, oGe, oIs, oIsNot, oSub, oMul, oFdiv, oMod, oPow, cPar, cPar3, cAug, tDNewK, cCall, cAttr, frzE, List.mem_singleton, List.lookup_cons_self, List.getElem?_cons_zero, List.getElem?_cons_succ, List.set_cons_zero, List.set_cons_succ, Option.some.injEq, reduceCtorEq, if_true, if_false, Bool.true_eq_false, Bool.false_eq_true, decide_eq_true_eq, ite_true, ite_false, ↓reduceIte, List.length_cons, List.length_nil, true_and, and_true, exists_eq_left', exists_eq_left, List.cons.injEq]
  exact h
theorem s_need_name {s : Str} (hs : s.length ≤ 1000) (hn : isNm s = true) (h : ∀ H', Ex H H' → Q .non H') : SP K (n+2) "need_name" [.str s] H Q E := by
  refine o_need_name ?_
  simp only [r_need_name, tSeq, tIfS, tNext, tRet, tRetN, tDrop, tAsg, tC, cVar, tOp, tCB, tCons, tNil, tTup, tLst, tIf, tAnd, tOr, tNot, cTest, cTru, oTru, cAnd, cOr, cNot, cUn, cChain, gName, cTupG, gCons, gNil, gSub, oLt, oLe, oGt, oGe, oIs, oIsNot, oSub, oMul, oFdiv, oMod, oPow, cPar, cPar3, cAug, tDNewK, cCall, cAttr, frzE, List.mem_singleton, List.lookup_cons_self, List.getElem?_cons_zero, List.getElem?_cons_succ, List.set_cons_zero, List.set_cons_succ, Option.some.injEq, reduceCtorEq, if_true, if_false, Bool.true_eq_false, Bool.false_eq_true, decide_eq_true_eq, ite_true, ite_false, ↓reduceIte, List.length_cons, List.length_nil, true_and, and_true, exists_eq_left', exists_eq_left, List.cons.injEq]
  refine s_is_name hs fun H' e => ?_
  rw [hn]
  try simp only [tSeq, tIfS, tNext, tRet, tRetN, tDrop, tAsg, tC, cVar, tOp, tCB, tCons, tNil, tTup, tLst, tIf, tAnd, tOr, tNot, cTest, cTru, oTru, cAnd, cOr, cNot, cUn, cChain, gName, cTupG, gCons, gNil, gSub, oLt, oLe, oGt, oGe, oIs, oIsNot, oSub, oMul, oFdiv, oMod, oPow, cPar, cPar3, cAug, tDNewK, cCall, cAttr, frzE, List.mem_singleton, List.lookup_cons_self, List.getElem?_cons_zero, List.getElem?_cons_succ, List.set_cons_zero, List.set_cons_succ, Option.some.injEq, reduceCtorEq, if_true, if_false, Bool.true_eq_false, Bool.false_eq_true, decide_eq_true_eq, ite_true, ite_false, ↓reduceIte, List.length_cons, List.length_nil, true_and, and_true, exists_eq_left', exists_eq_left, List.cons.injEq]
  exact h H' e
/-- a Wrongs stands at p, its dict at d -/
def WAt (K : PySem.W.Frag) (H : Hp) (p d : Addr) (rs : Rws) : Prop := (∃ dx, H p = some (.ins (He.ga K "Wrongs") dx [("wrong_counts", .ref d)])) ∧ RAt H d rs
theorem WAt.ex {H H' : Hp} {p d : Addr} {rs : Rws} (x : Ex H H') (h : WAt K H p d rs) : WAt K H' p d rs := by
  obtain ⟨⟨dx, e⟩, r⟩ := h
  exact ⟨⟨dx, x _ _ e⟩, r.ex x⟩
theorem s_init {p dx : Addr} (hp : H p = some (.ins (He.ga K "Wrongs") dx [])) (h : ∀ d H', WAt K H' p d [] → H d = none → (∀ b o, b ≠ p → H b = some o → H' b = some o) → Q .non H') : SP K (n+1) "Wrongs.__init__" [.ref p] H Q E := by
  refine o_Wrongs___init__ ?_
  simp only [r_Wrongs___init__, cFldS, tSeq, tIfS, tNext, tRet, tRetN, tDrop, tAsg, tC, cVar, tOp, tCB, tCons, tNil, tTup, tLst, tIf, tAnd, tOr, tNot, cTest, cTru, oTru, cAnd, cOr, cNot, cUn, cChain, gName, cTupG, gCons, gNil, gSub, oLt, oLe, oGt, oGe, oIs, oIsNot, oSub, oMul, oFdiv, oMod, oPow, cPar, cPar3, cAug, tDNewK, cCall, cAttr, frzE, List.mem_singleton, List.lookup_cons_self, List.getElem?_cons_zero, List.getElem?_cons_succ, List.set_cons_zero, List.set_cons_succ, Option.some.injEq, reduceCtorEq, if_true, if_false, Bool.true_eq_false, Bool.false_eq_true, decide_eq_true_eq, ite_true, ite_false, ↓reduceIte, List.length_cons, List.length_nil, true_and, and_true, exists_eq_left', exists_eq_left, List.cons.injEq]
  intro d hd
  have npd : p ≠ d := ne_of_none hp hd
  rw [upd_ne npd, hp]
  try simp only [tSeq, tIfS, tNext, tRet, tRetN, tDrop, tAsg, tC, cVar, tOp, tCB, tCons, tNil, tTup, tLst, tIf, tAnd, tOr, tNot, cTest, cTru, oTru, cAnd, cOr, cNot, cUn, cChain, gName, cTupG, gCons, gNil, gSub, oLt, oLe, oGt, oGe, oIs, oIsNot, oSub, oMul, oFdiv, oMod, oPow, cPar, cPar3, cAug, tDNewK, cCall, cAttr, frzE, List.mem_singleton, List.lookup_cons_self, List.getElem?_cons_zero, List.getElem?_cons_succ, List.set_cons_zero, List.set_cons_succ, Option.some.injEq, reduceCtorEq, if_true, if_false, Bool.true_eq_false, Bool.false_eq_true, decide_eq_true_eq, ite_true, ite_false, ↓reduceIte, List.length_cons, List.length_nil, true_and, and_true, exists_eq_left', exists_eq_left, List.cons.injEq]
  refine ⟨by decide, h d _ ⟨⟨dx, ?_⟩, [], ?_, trivial⟩ hd fun b o hb e => ?_⟩
  · rw [upd_same]; rfl
  · rw [upd_ne npd.symm, upd_same]
  · rw [upd_ne hb, upd_ne (ne_of_none e hd)]; exact e
def cnt (rs : Rws) (s : Str) : Int := ((rget rs s).getD (0, 0)).1
theorem s_count_of {p d : Addr} {rs : Rws} {s : Str} (W : WAt K H p d rs) (hs : s.length ≤ 1000) (hn : isNm s = true) (h : ∀ H', Ex H H' → Q (.int (cnt rs s)) H') : SP K (n+3) "Wrongs.count_of" [.ref p, .str s] H Q E := by
  refine o_Wrongs_count_of ?_
  simp only [r_Wrongs_count_of, tSeq, tIfS, tNext, tRet, tRetN, tDrop, tAsg, tC, cVar, tOp, tCB, tCons, tNil, tTup, tLst, tIf, tAnd, tOr, tNot, cTest, cTru, oTru, cAnd, cOr, cNot, cUn, cChain, gName, cTupG, gCons, gNil, gSub, oLt, oLe, oGt, oGe, oIs, oIsNot, oSub, oMul, oFdiv, oMod, oPow, cPar, cPar3, cAug, tDNewK, cCall, cAttr, frzE, List.mem_singleton, List.lookup_cons_self, List.getElem?_cons_zero, List.getElem?_cons_succ, List.set_cons_zero, List.set_cons_succ, Option.some.injEq, reduceCtorEq, if_true, if_false, Bool.true_eq_false, Bool.false_eq_true, decide_eq_true_eq, ite_true, ite_false, ↓reduceIte, List.length_cons, List.length_nil, true_and, and_true, exists_eq_left', exists_eq_left, List.cons.injEq]
  refine s_need_name hs hn fun H1 e => ?_
  obtain ⟨⟨dx, hp⟩, kvs, hd, r⟩ := W.ex e
  try simp only [tSeq, tIfS, tNext, tRet, tRetN, tDrop, tAsg, tC, cVar, tOp, tCB, tCons, tNil, tTup, tLst, tIf, tAnd, tOr, tNot, cTest, cTru, oTru, cAnd, cOr, cNot, cUn, cChain, gName, cTupG, gCons, gNil, gSub, oLt, oLe, oGt, oGe, oIs, oIsNot, oSub, oMul, oFdiv, oMod, oPow, cPar, cPar3, cAug, tDNewK, cCall, cAttr, frzE, List.mem_singleton, List.lookup_cons_self, List.getElem?_cons_zero, List.getElem?_cons_succ, List.set_cons_zero, List.set_cons_succ, Option.some.injEq, reduceCtorEq, if_true, if_false, Bool.true_eq_false, Bool.false_eq_true, decide_eq_true_eq, ite_true, ite_false, ↓reduceIte, List.length_cons, List.length_nil, true_and, and_true, exists_eq_left', exists_eq_left, List.cons.injEq]
  rw [ins_ins hp]
  try simp only [tSeq, tIfS, tNext, tRet, tRetN, tDrop, tAsg, tC, cVar, tOp, tCB, tCons, tNil, tTup, tLst, tIf, tAnd, tOr, tNot, cTest, cTru, oTru, cAnd, cOr, cNot, cUn, cChain, gName, cTupG, gCons, gNil, gSub, oLt, oLe, oGt, oGe, oIs, oIsNot, oSub, oMul, oFdiv, oMod, oPow, cPar, cPar3, cAug, tDNewK, cCall, cAttr, frzE, List.mem_singleton, List.lookup_cons_self, List.getElem?_cons_zero, List.getElem?_cons_succ, List.set_cons_zero, List.set_cons_succ, Option.some.injEq, reduceCtorEq, if_true, if_false, Bool.true_eq_false, Bool.false_eq_true, decide_eq_true_eq, ite_true, ite_false, ↓reduceIte, List.length_cons, List.length_nil, true_and, and_true, exists_eq_left', exists_eq_left, List.cons.injEq]
  rw [in_dS hd]
  try simp only [tSeq, tIfS, tNext, tRet, tRetN, tDrop, tAsg, tC, cVar, tOp, tCB, tCons, tNil, tTup, tLst, tIf, tAnd, tOr, tNot, cTest, cTru, oTru, cAnd, cOr, cNot, cUn, cChain, gName, cTupG, gCons, gNil, gSub, oLt, oLe, oGt, oGe, oIs, oIsNot, oSub, oMul, oFdiv, oMod, oPow, cPar, cPar3, cAug, tDNewK, cCall, cAttr, frzE, List.mem_singleton, List.lookup_cons_self, List.getElem?_cons_zero, List.getElem?_cons_succ, List.set_cons_zero, List.set_cons_succ, Option.some.injEq, reduceCtorEq, if_true, if_false, Bool.true_eq_false, Bool.false_eq_true, decide_eq_true_eq, ite_true, ite_false, ↓reduceIte, List.length_cons, List.length_nil, true_and, and_true, exists_eq_left', exists_eq_left, List.cons.injEq]
  have q := h H1 e
  unfold cnt at q
  rcases r.get s with ⟨a, b⟩ | ⟨t, c, l, a, b, et⟩
  · rw [b] at q
    rw [a]
    simpa [tC] using q
  · rw [a]
    rw [b] at q
    simp only [Option.isSome_some, Bool.false_bne, if_true, tSeq, tIfS, tNext, tRet, tRetN, tDrop, tAsg, tC, cVar, tOp, tCB, tCons, tNil, tTup, tLst, tIf, tAnd, tOr, tNot, cTest, cTru, oTru, cAnd, cOr, cNot, cUn, cChain, gName, cTupG, gCons, gNil, gSub, oLt, oLe, oGt, oGe, oIs, oIsNot, oSub, oMul, oFdiv, oMod, oPow, cPar, cPar3, cAug, tDNewK, cCall, cAttr, frzE, List.mem_singleton, List.lookup_cons_self, List.getElem?_cons_zero, List.getElem?_cons_succ, List.set_cons_zero, List.set_cons_succ, Option.some.injEq, reduceCtorEq, if_true, if_false, Bool.true_eq_false, Bool.false_eq_true, decide_eq_true_eq, ite_true, ite_false, ↓reduceIte, List.length_cons, List.length_nil, true_and, and_true, exists_eq_left', exists_eq_left, List.cons.injEq]
    rw [ins_ins hp]
    try simp only [tSeq, tIfS, tNext, tRet, tRetN, tDrop, tAsg, tC, cVar, tOp, tCB, tCons, tNil, tTup, tLst, tIf, tAnd, tOr, tNot, cTest, cTru, oTru, cAnd, cOr, cNot, cUn, cChain, gName, cTupG, gCons, gNil, gSub, oLt, oLe, oGt, oGe, oIs, oIsNot, oSub, oMul, oFdiv, oMod, oPow, cPar, cPar3, cAug, tDNewK, cCall, cAttr, frzE, List.mem_singleton, List.lookup_cons_self, List.getElem?_cons_zero, List.getElem?_cons_succ, List.set_cons_zero, List.set_cons_succ, Option.some.injEq, reduceCtorEq, if_true, if_false, Bool.true_eq_false, Bool.false_eq_true, decide_eq_true_eq, ite_true, ite_false, ↓reduceIte, List.length_cons, List.length_nil, true_and, and_true, exists_eq_left', exists_eq_left, List.cons.injEq]
    rw [ix_dS hd a, ix_tup (look_of_tup et) (v := .int c) rfl]
    exact q
/-- the pairs in the order ys -/
def ordr (rs : Rws) (ys : List Str) : Rws := ys.map fun s => (s, (rget rs s).getD (0, 0))
theorem s_len {p d : Addr} {rs : Rws} (W : WAt K H p d rs) (h : Q (.int rs.length) H) : SP K (n+1) "Wrongs.__len__" [.ref p] H Q E := by
  refine o_Wrongs___len__ ?_
  obtain ⟨⟨dx, hp⟩, kvs, hd, r⟩ := W
  simp only [r_Wrongs___len__, tSeq, tIfS, tNext, tRet, tRetN, tDrop, tAsg, tC, cVar, tOp, tCB, tCons, tNil, tTup, tLst, tIf, tAnd, tOr, tNot, cTest, cTru, oTru, cAnd, cOr, cNot, cUn, cChain, gName, cTupG, gCons, gNil, gSub, oLt, oLe, oGt, oGe, oIs, oIsNot, oSub, oMul, oFdiv, oMod, oPow, cPar, cPar3, cAug, tDNewK, cCall, cAttr, frzE, List.mem_singleton, List.lookup_cons_self, List.getElem?_cons_zero, List.getElem?_cons_succ, List.set_cons_zero, List.set_cons_succ, Option.some.injEq, reduceCtorEq, if_true, if_false, Bool.true_eq_false, Bool.false_eq_true, decide_eq_true_eq, ite_true, ite_false, ↓reduceIte, List.length_cons, List.length_nil, true_and, and_true, exists_eq_left', exists_eq_left, List.cons.injEq]
  rw [ins_ins hp]
  try simp only [tSeq, tIfS, tNext, tRet, tRetN, tDrop, tAsg, tC, cVar, tOp, tCB, tCons, tNil, tTup, tLst, tIf, tAnd, tOr, tNot, cTest, cTru, oTru, cAnd, cOr, cNot, cUn, cChain, gName, cTupG, gCons, gNil, gSub, oLt, oLe, oGt, oGe, oIs, oIsNot, oSub, oMul, oFdiv, oMod, oPow, cPar, cPar3, cAug, tDNewK, cCall, cAttr, frzE, List.mem_singleton, List.lookup_cons_self, List.getElem?_cons_zero, List.getElem?_cons_succ, List.set_cons_zero, List.set_cons_succ, Option.some.injEq, reduceCtorEq, if_true, if_false, Bool.true_eq_false, Bool.false_eq_true, decide_eq_true_eq, ite_true, ite_false, ↓reduceIte, List.length_cons, List.length_nil, true_and, and_true, exists_eq_left', exists_eq_left, List.cons.injEq]
  rw [len_dK rfl hd, r.len]
  exact h
theorem s_seen {p d : Addr} {rs : Rws} {s : Str} (W : WAt K H p d rs) (hl : rs.length ≤ 900) (hs : s.length ≤ 1000) (hn : isNm s = true)
    (h : ∀ H', WAt K H' p d (rput rs s (cnt rs s + 1, 5)) → Exd d H H' → Q (.int (cnt rs s + 1)) H') : SP K (n+4) "Wrongs.seen" [.ref p, .str s] H Q E := by
  refine o_Wrongs_seen ?_
  simp only [r_Wrongs_seen, tSeq, tIfS, tNext, tRet, tRetN, tDrop, tAsg, tC, cVar, tOp, tCB, tCons, tNil, tTup, tLst, tIf, tAnd, tOr, tNot, cTest, cTru, oTru, cAnd, cOr, cNot, cUn, cChain, gName, cTupG, gCons, gNil, gSub, oLt, oLe, oGt, oGe, oIs, oIsNot, oSub, oMul, oFdiv, oMod, oPow, cPar, cPar3, cAug, tDNewK, cCall, cAttr, frzE, List.mem_singleton, List.lookup_cons_self, List.getElem?_cons_zero, List.getElem?_cons_succ, List.set_cons_zero, List.set_cons_succ, Option.some.injEq, reduceCtorEq, if_true, if_false, Bool.true_eq_false, Bool.false_eq_true, decide_eq_true_eq, ite_true, ite_false, ↓reduceIte, List.length_cons, List.length_nil, true_and, and_true, exists_eq_left', exists_eq_left, List.cons.injEq]
  refine s_need_name hs hn fun H1 e1 => ?_
  have W1 := W.ex e1
  refine mC_own (c_count_of_1 K _) ?_ fun P P' hh q => mono_var hh q
  obtain ⟨⟨dx, hp⟩, kvs, hd, r⟩ := id W1
  try simp only [tSeq, tIfS, tNext, tRet, tRetN, tDrop, tAsg, tC, cVar, tOp, tCB, tCons, tNil, tTup, tLst, tIf, tAnd, tOr, tNot, cTest, cTru, oTru, cAnd, cOr, cNot, cUn, cChain, gName, cTupG, gCons, gNil, gSub, oLt, oLe, oGt, oGe, oIs, oIsNot, oSub, oMul, oFdiv, oMod, oPow, cPar, cPar3, cAug, tDNewK, cCall, cAttr, frzE, List.mem_singleton, List.lookup_cons_self, List.getElem?_cons_zero, List.getElem?_cons_succ, List.set_cons_zero, List.set_cons_succ, Option.some.injEq, reduceCtorEq, if_true, if_false, Bool.true_eq_false, Bool.false_eq_true, decide_eq_true_eq, ite_true, ite_false, ↓reduceIte, List.length_cons, List.length_nil, true_and, and_true, exists_eq_left', exists_eq_left, List.cons.injEq]
  refine ⟨p, dx, _, rfl, hp, lk1 (by decide +kernel), ?_⟩
  try simp only [tSeq, tIfS, tNext, tRet, tRetN, tDrop, tAsg, tC, cVar, tOp, tCB, tCons, tNil, tTup, tLst, tIf, tAnd, tOr, tNot, cTest, cTru, oTru, cAnd, cOr, cNot, cUn, cChain, gName, cTupG, gCons, gNil, gSub, oLt, oLe, oGt, oGe, oIs, oIsNot, oSub, oMul, oFdiv, oMod, oPow, cPar, cPar3, cAug, tDNewK, cCall, cAttr, frzE, List.mem_singleton, List.lookup_cons_self, List.getElem?_cons_zero, List.getElem?_cons_succ, List.set_cons_zero, List.set_cons_succ, Option.some.injEq, reduceCtorEq, if_true, if_false, Bool.true_eq_false, Bool.false_eq_true, decide_eq_true_eq, ite_true, ite_false, ↓reduceIte, List.length_cons, List.length_nil, true_and, and_true, exists_eq_left', exists_eq_left, List.cons.injEq]
  refine s_count_of W1 hs hn fun H2 e2 => ?_
  have W2 := W1.ex e2
  obtain ⟨⟨dx2, hp2⟩, kvs2, hd2, r2⟩ := id W2
  simp only [oAdd]
  try simp only [tSeq, tIfS, tNext, tRet, tRetN, tDrop, tAsg, tC, cVar, tOp, tCB, tCons, tNil, tTup, tLst, tIf, tAnd, tOr, tNot, cTest, cTru, oTru, cAnd, cOr, cNot, cUn, cChain, gName, cTupG, gCons, gNil, gSub, oLt, oLe, oGt, oGe, oIs, oIsNot, oSub, oMul, oFdiv, oMod, oPow, cPar, cPar3, cAug, tDNewK, cCall, cAttr, frzE, List.mem_singleton, List.lookup_cons_self, List.getElem?_cons_zero, List.getElem?_cons_succ, List.set_cons_zero, List.set_cons_succ, Option.some.injEq, reduceCtorEq, if_true, if_false, Bool.true_eq_false, Bool.false_eq_true, decide_eq_true_eq, ite_true, ite_false, ↓reduceIte, List.length_cons, List.length_nil, true_and, and_true, exists_eq_left', exists_eq_left, List.cons.injEq]
  refine ⟨by simp only [sizeLine_eq]; omega, fun t ht => ?_⟩
  have npt : p ≠ t := ne_of_none hp2 ht
  have ndt : d ≠ t := ne_of_none hd2 ht
  rw [ins_ins (by rw [upd_ne npt]; exact hp2)]
  try simp only [tSeq, tIfS, tNext, tRet, tRetN, tDrop, tAsg, tC, cVar, tOp, tCB, tCons, tNil, tTup, tLst, tIf, tAnd, tOr, tNot, cTest, cTru, oTru, cAnd, cOr, cNot, cUn, cChain, gName, cTupG, gCons, gNil, gSub, oLt, oLe, oGt, oGe, oIs, oIsNot, oSub, oMul, oFdiv, oMod, oPow, cPar, cPar3, cAug, tDNewK, cCall, cAttr, frzE, List.mem_singleton, List.lookup_cons_self, List.getElem?_cons_zero, List.getElem?_cons_succ, List.set_cons_zero, List.set_cons_succ, Option.some.injEq, reduceCtorEq, if_true, if_false, Bool.true_eq_false, Bool.false_eq_true, decide_eq_true_eq, ite_true, ite_false, ↓reduceIte, List.length_cons, List.length_nil, true_and, and_true, exists_eq_left', exists_eq_left, List.cons.injEq]
  have hd3 : (upd H2 t (.tup [.int (cnt rs s + 1), .int 5])) d = some (.dK kvs2) := by rw [upd_ne ndt]; exact hd2
  refine set_dS hd3 (by rw [r2.len]; omega) ?_
  have npd : p ≠ d := fun z => by rw [z, hd2] at hp2; cases hp2
  refine h _ ⟨⟨dx2, ?_⟩, _, upd_same, ?_⟩ fun b o hb eb => ?_
  · rw [upd_ne npd, upd_ne npt]; exact hp2
  · have r3 := RR.put (n := s) (t := t) (c := cnt rs s + 1) (l := 5) (H := upd H2 t (.tup [.int (cnt rs s + 1), .int 5])) upd_same (r2.tp (Ex.refl.new ht).tp)
    refine r3.tp fun b xs eb => ?_
    have hb : b ≠ d := fun z => by rw [z, hd3] at eb; cases eb
    rw [upd_ne hb]; exact eb
  · rw [upd_ne hb]
    exact ((e1.trans e2).new (e1.none (e2.none ht))) b o eb
end
end WR.L

set_option Elab.async false
set_option linter.all false
set_option maxRecDepth 100000
set_option maxHeartbeats 4000000
namespace WR.L
open PySem PySem.Spec PyProof.Rows L2
section
variable {K : PySem.W.Frag} {n : Nat} {H : Hp} {Q : VK} {E : XK}
theorem rput_snoc {rs : Rws} {s : Str} {p : Int × Int} (h : ∀ r ∈ rs, r.1 ≠ s) : rput rs s p = rs ++ [(s, p)] := by
  unfold rput
  rw [if_neg]
  simp only [List.any_eq_true, decide_eq_true_eq, not_exists, not_and]
  exact h
theorem ordr_keys (rs : Rws) (ys : List Str) : (ordr rs ys).map (·.1) = ys := by
  unfold ordr; rw [List.map_map]; simp [Function.comp_def]
theorem ordr_snoc {rs : Rws} {ys : List Str} {j : Nat} {s : Str} (nd : ys.Nodup) (hj : ys[j]? = some s) : rput (ordr rs (ys.take j)) s ((rget rs s).getD (0, 0)) = ordr rs (ys.take (j + 1)) := by
  rw [rput_snoc]
  · unfold ordr
    rw [List.take_add_one, hj]
    simp
  · intro r hr e
    have h1 : s ∈ ys.take j := by
      have := List.mem_map_of_mem (f := (·.1)) hr
      rw [ordr_keys] at this
      rw [← e]; exact this
    obtain ⟨i, hi, e1⟩ := List.mem_iff_getElem.mp h1
    have hij : i < j := by have := hi; rw [List.length_take] at this; omega
    have e2 : ys[i]? = some s := by rw [← List.getElem?_take_of_lt hij, List.getElem?_eq_getElem hi, e1]
    have h2 := (List.getElem?_eq_some_iff.mp hj).1
    have h3 := (List.getElem?_eq_some_iff.mp e2).1
    exact absurd (by rw [(List.getElem?_eq_some_iff.mp e2).2, (List.getElem?_eq_some_iff.mp hj).2]) (List.pairwise_iff_getElem.mp nd i j h3 h2 hij)
theorem rget_mem {rs : Rws} {s : Str} (h : s ∈ rs.map (·.1)) : ∃ p, rget rs s = some p := by
  obtain ⟨r, hr, e⟩ := List.mem_map.mp h
  unfold rget
  cases q : rs.find? fun r => decide (r.1 = s) with
  | none =>
    have := List.find?_eq_none.mp q r hr
    simp [e] at this
  | some r' => exact ⟨r'.2, rfl⟩
/-- a list's items are told one by one -/
theorem itl_yld {l : Addr} {xs : List V} {i : Nat} {x : V} {H' : Hp} (e : H l = some (.lst xs)) (h : (Itl K l).yld i H x H') : H' = H ∧ xs[i]? = some x := ⟨h.1, h.2 xs (.inl (.inl e))⟩
theorem itl_go {l : Addr} {xs : List V} {i : Nat} (e : H l = some (.lst xs)) (hi : i < xs.length) : (Itl K l).go i H := ⟨xs, xs[i], .inl (.inl e), by simp [hi]⟩
theorem itl_stop {l : Addr} {xs : List V} {i : Nat} (e : H l = some (.lst xs)) (hi : xs.length ≤ i) : (Itl K l).stop i H := ⟨xs, .inl (.inl e), hi⟩
/-- what a told dict is: the rows in the order of their names -/
def Told (rs : Rws) (ts : Rws) : Prop := ∃ ys : List Str, ys.Perm (rs.map (·.1)) ∧ sortedS ys = true ∧ ts = ordr rs ys
theorem Told.uniq {rs ts us : Rws} (h : Told rs ts) (k : Told rs us) : ts = us := by
  obtain ⟨ys, h1, h2, rfl⟩ := h
  obtain ⟨zs, k1, k2, rfl⟩ := k
  rw [srt_uniq h1 h2 k1 k2]
theorem s_told {p d : Addr} {rs : Rws} (W : WAt K H p d rs) (hl : rs.length < 64) (nd : (rs.map (·.1)).Nodup) (h : ∀ ts q H', Told rs ts → Ex H H' → H q = none → RAt H' q ts → Q (.ref q) H') : SP K (n+1) "Wrongs.told" [.ref p] H Q E := by
  refine o_Wrongs_told ?_
  obtain ⟨⟨dx, hp⟩, kvs, hd, r⟩ := W
  simp only [r_Wrongs_told, tRet]
  refine .inl ?_
  simp only [cDc, cIter, tSeq, tIfS, tNext, tRet, tRetN, tDrop, tAsg, tC, cVar, tOp, tCB, tCons, tNil, tTup, tLst, tIf, tAnd, tOr, tNot, cTest, cTru, oTru, cAnd, cOr, cNot, cUn, cChain, gName, cTupG, gCons, gNil, gSub, oLt, oLe, oGt, oGe, oIs, oIsNot, oSub, oMul, oFdiv, oMod, oPow, cPar, cPar3, cAug, tDNewK, cCall, cAttr, frzE, List.mem_singleton, List.lookup_cons_self, List.getElem?_cons_zero, List.getElem?_cons_succ, List.set_cons_zero, List.set_cons_succ, Option.some.injEq, reduceCtorEq, if_true, if_false, Bool.true_eq_false, Bool.false_eq_true, decide_eq_true_eq, ite_true, ite_false, ↓reduceIte, List.length_cons, List.length_nil, true_and, and_true, exists_eq_left', exists_eq_left, List.cons.injEq]
  rw [ins_ins hp]
  try simp only [tSeq, tIfS, tNext, tRet, tRetN, tDrop, tAsg, tC, cVar, tOp, tCB, tCons, tNil, tTup, tLst, tIf, tAnd, tOr, tNot, cTest, cTru, oTru, cAnd, cOr, cNot, cUn, cChain, gName, cTupG, gCons, gNil, gSub, oLt, oLe, oGt, oGe, oIs, oIsNot, oSub, oMul, oFdiv, oMod, oPow, cPar, cPar3, cAug, tDNewK, cCall, cAttr, frzE, List.mem_singleton, List.lookup_cons_self, List.getElem?_cons_zero, List.getElem?_cons_succ, List.set_cons_zero, List.set_cons_succ, Option.some.injEq, reduceCtorEq, if_true, if_false, Bool.true_eq_false, Bool.false_eq_true, decide_eq_true_eq, ite_true, ite_false, ↓reduceIte, List.length_cons, List.length_nil, true_and, and_true, exists_eq_left', exists_eq_left, List.cons.injEq]
  simp only [bSorted, look_of_dK hd, r.keys]
  refine ⟨by rw [List.length_map]; exact hl, fun ys hp1 hs1 l hl1 => ?_⟩
  have ndl : d ≠ l := ne_of_none hd hl1
  have npl : p ≠ l := ne_of_none hp hl1
  try simp only [tSeq, tIfS, tNext, tRet, tRetN, tDrop, tAsg, tC, cVar, tOp, tCB, tCons, tNil, tTup, tLst, tIf, tAnd, tOr, tNot, cTest, cTru, oTru, cAnd, cOr, cNot, cUn, cChain, gName, cTupG, gCons, gNil, gSub, oLt, oLe, oGt, oGe, oIs, oIsNot, oSub, oMul, oFdiv, oMod, oPow, cPar, cPar3, cAug, tDNewK, cCall, cAttr, frzE, List.mem_singleton, List.lookup_cons_self, List.getElem?_cons_zero, List.getElem?_cons_succ, List.set_cons_zero, List.set_cons_succ, Option.some.injEq, reduceCtorEq, if_true, if_false, Bool.true_eq_false, Bool.false_eq_true, decide_eq_true_eq, ite_true, ite_false, ↓reduceIte, List.length_cons, List.length_nil, true_and, and_true, exists_eq_left', exists_eq_left, List.cons.injEq]
  simp only [upd_same, look_of_lst upd_same]
  intro D hD
  have hlD : l ≠ D := fun z => by rw [z, upd_same] at hD; cases hD
  have ndy : ys.Nodup := hp1.nodup_iff.mpr nd
  have hDH : H D = none := (Ex.refl.new hl1).none hD
  refine lpd_inv (n := ys.length) (fun j H' => Ex (upd H l (.lst (ys.map V.str))) H' ∧ RAt H' D (ordr rs (ys.take j))) ?_ ?_ ⟨Ex.refl.new hD, [], upd_same, trivial⟩
  · rintro H' ⟨h1, h2⟩
    refine ⟨itl_stop (h1 _ _ upd_same) (by simp), h _ D H' ⟨ys, hp1, hs1, rfl⟩ ((Ex.refl.new hl1).trans h1) hDH ?_⟩
    rw [List.take_length] at h2
    exact h2
  · rintro j H' hj ⟨h1, kv2, e2, r2⟩ R hR
    have el := h1 l _ upd_same
    refine ⟨itl_go el (by simpa using hj), ?_⟩
    intro x H2 hy
    obtain ⟨rfl, hx⟩ := itl_yld el hy
    rw [List.getElem?_map] at hx
    cases ey : ys[j]? with
    | none => rw [ey] at hx; cases hx
    | some s =>
      rw [ey] at hx
      obtain rfl : V.str s = x := Option.some.inj hx
      refine ⟨rfl, ?_⟩
      simp only [tYes, wipe, tSeq, tIfS, tNext, tRet, tRetN, tDrop, tAsg, tC, cVar, tOp, tCB, tCons, tNil, tTup, tLst, tIf, tAnd, tOr, tNot, cTest, cTru, oTru, cAnd, cOr, cNot, cUn, cChain, gName, cTupG, gCons, gNil, gSub, oLt, oLe, oGt, oGe, oIs, oIsNot, oSub, oMul, oFdiv, oMod, oPow, cPar, cPar3, cAug, tDNewK, cCall, cAttr, frzE, List.mem_singleton, List.lookup_cons_self, List.getElem?_cons_zero, List.getElem?_cons_succ, List.set_cons_zero, List.set_cons_succ, Option.some.injEq, reduceCtorEq, if_true, if_false, Bool.true_eq_false, Bool.false_eq_true, decide_eq_true_eq, ite_true, ite_false, ↓reduceIte, List.length_cons, List.length_nil, true_and, and_true, exists_eq_left', exists_eq_left, List.cons.injEq]
      have hp2 := h1 p _ (by rw [upd_ne npl]; exact hp)
      have hd2 := h1 d _ (by rw [upd_ne ndl]; exact hd)
      rw [ins_ins hp2]
      try simp only [tSeq, tIfS, tNext, tRet, tRetN, tDrop, tAsg, tC, cVar, tOp, tCB, tCons, tNil, tTup, tLst, tIf, tAnd, tOr, tNot, cTest, cTru, oTru, cAnd, cOr, cNot, cUn, cChain, gName, cTupG, gCons, gNil, gSub, oLt, oLe, oGt, oGe, oIs, oIsNot, oSub, oMul, oFdiv, oMod, oPow, cPar, cPar3, cAug, tDNewK, cCall, cAttr, frzE, List.mem_singleton, List.lookup_cons_self, List.getElem?_cons_zero, List.getElem?_cons_succ, List.set_cons_zero, List.set_cons_succ, Option.some.injEq, reduceCtorEq, if_true, if_false, Bool.true_eq_false, Bool.false_eq_true, decide_eq_true_eq, ite_true, ite_false, ↓reduceIte, List.length_cons, List.length_nil, true_and, and_true, exists_eq_left', exists_eq_left, List.cons.injEq]
      have r3 : RR H2 kvs rs := r.tp (((Ex.refl.new hl1).trans h1).tp)
      have hm : s ∈ rs.map (·.1) := hp1.mem_iff.mp (List.mem_of_getElem? ey)
      obtain ⟨pr, hpr⟩ := rget_mem hm
      rcases r3.get s with ⟨a, b⟩ | ⟨t, c, l', a, b, et⟩
      · rw [hpr] at b; cases b
      · rw [ix_dS hd2 a]
        refine ⟨kv2, .inr s, rfl, e2, ?_, hR _ ⟨?_, _, upd_same, ?_⟩⟩
        · rw [r2.len]
          have : (ordr rs (ys.take j)).length ≤ ys.length := by unfold ordr; rw [List.length_map, List.length_take]; omega
          have h3 : ys.length = rs.length := by rw [hp1.length_eq, List.length_map]
          exact small1000 (by omega)
        · intro b o eb
          have hb : b ≠ D := fun z => by rw [z, hD] at eb; cases eb
          rw [upd_ne hb]; exact h1 b o eb
        · have r4 := RR.put (n := s) et r2
          have e5 : rput (ordr rs (ys.take j)) s (c, l') = ordr rs (ys.take (j + 1)) := by
            have := ordr_snoc (rs := rs) ndy ey
            rw [b] at this
            exact this
          rw [e5] at r4
          refine r4.tp fun b xs eb => ?_
          have hb : b ≠ D := fun z => by rw [z, e2] at eb; cases eb
          rw [upd_ne hb]; exact eb
theorem s_law_told {d : Addr} {rs : Rws} (W : RAt H d rs) (hl : rs.length < 64) (nd : (rs.map (·.1)).Nodup) (h : ∀ ts q H', Told rs ts → Ex H H' → H q = none → RAt H' q ts → Q (.ref q) H') : SP K (n+1) "_law_told" [.ref d] H Q E := by
  refine o__law_told ?_
  obtain ⟨kvs, hd, r⟩ := W
  simp only [r__law_told, tSeq, tIfS, tNext, tRet, tRetN, tDrop, tAsg, tC, cVar, tOp, tCB, tCons, tNil, tTup, tLst, tIf, tAnd, tOr, tNot, cTest, cTru, oTru, cAnd, cOr, cNot, cUn, cChain, gName, cTupG, gCons, gNil, gSub, oLt, oLe, oGt, oGe, oIs, oIsNot, oSub, oMul, oFdiv, oMod, oPow, cPar, cPar3, cAug, tDNewK, cCall, cAttr, frzE, List.mem_singleton, List.lookup_cons_self, List.getElem?_cons_zero, List.getElem?_cons_succ, List.set_cons_zero, List.set_cons_succ, Option.some.injEq, reduceCtorEq, if_true, if_false, Bool.true_eq_false, Bool.false_eq_true, decide_eq_true_eq, ite_true, ite_false, ↓reduceIte, List.length_cons, List.length_nil, true_and, and_true, exists_eq_left', exists_eq_left, List.cons.injEq]
  intro D hD
  have ndD : d ≠ D := ne_of_none hd hD
  have hd1 : (upd H D (.dK [])) d = some (.dK kvs) := by rw [upd_ne ndD]; exact hd
  refine .inl ?_
  simp only [cFor, cIter, tSeq, tIfS, tNext, tRet, tRetN, tDrop, tAsg, tC, cVar, tOp, tCB, tCons, tNil, tTup, tLst, tIf, tAnd, tOr, tNot, cTest, cTru, oTru, cAnd, cOr, cNot, cUn, cChain, gName, cTupG, gCons, gNil, gSub, oLt, oLe, oGt, oGe, oIs, oIsNot, oSub, oMul, oFdiv, oMod, oPow, cPar, cPar3, cAug, tDNewK, cCall, cAttr, frzE, List.mem_singleton, List.lookup_cons_self, List.getElem?_cons_zero, List.getElem?_cons_succ, List.set_cons_zero, List.set_cons_succ, Option.some.injEq, reduceCtorEq, if_true, if_false, Bool.true_eq_false, Bool.false_eq_true, decide_eq_true_eq, ite_true, ite_false, ↓reduceIte, List.length_cons, List.length_nil, true_and, and_true, exists_eq_left', exists_eq_left, List.cons.injEq]
  have r1 : RR (upd H D (.dK [])) kvs rs := r.tp (Ex.refl.new hD).tp
  simp only [bSorted, look_of_dK hd1, r1.keys]
  refine ⟨by rw [List.length_map]; exact hl, fun ys hp1 hs1 l hl1 => ?_⟩
  try simp only [tSeq, tIfS, tNext, tRet, tRetN, tDrop, tAsg, tC, cVar, tOp, tCB, tCons, tNil, tTup, tLst, tIf, tAnd, tOr, tNot, cTest, cTru, oTru, cAnd, cOr, cNot, cUn, cChain, gName, cTupG, gCons, gNil, gSub, oLt, oLe, oGt, oGe, oIs, oIsNot, oSub, oMul, oFdiv, oMod, oPow, cPar, cPar3, cAug, tDNewK, cCall, cAttr, frzE, List.mem_singleton, List.lookup_cons_self, List.getElem?_cons_zero, List.getElem?_cons_succ, List.set_cons_zero, List.set_cons_succ, Option.some.injEq, reduceCtorEq, if_true, if_false, Bool.true_eq_false, Bool.false_eq_true, decide_eq_true_eq, ite_true, ite_false, ↓reduceIte, List.length_cons, List.length_nil, true_and, and_true, exists_eq_left', exists_eq_left, List.cons.injEq]
  simp only [look_of_lst upd_same, upd_same]
  have ndy : ys.Nodup := hp1.nodup_iff.mpr nd
  have hDl : D ≠ l := fun z => by rw [← z, upd_same] at hl1; cases hl1
  have hlH : H l = none := by rw [upd_ne hDl.symm] at hl1; exact hl1
  refine lp_inv (n := ys.length) (fun j σ H' => (∃ v, σ = [some (.ref d), some (.ref D), v]) ∧ Ex H H' ∧ H' l = some (.lst (ys.map V.str)) ∧ RAt H' D (ordr rs (ys.take j))) ?_ ?_ ⟨⟨_, rfl⟩, (Ex.refl.new hD).new hlH, upd_same, [], by rw [upd_ne hDl, upd_same], trivial⟩
  · rintro σ H' ⟨⟨v, rfl⟩, h1, h2, h3⟩
    refine ⟨itl_stop h2 (by simp), ?_⟩
    try simp only [tSeq, tIfS, tNext, tRet, tRetN, tDrop, tAsg, tC, cVar, tOp, tCB, tCons, tNil, tTup, tLst, tIf, tAnd, tOr, tNot, cTest, cTru, oTru, cAnd, cOr, cNot, cUn, cChain, gName, cTupG, gCons, gNil, gSub, oLt, oLe, oGt, oGe, oIs, oIsNot, oSub, oMul, oFdiv, oMod, oPow, cPar, cPar3, cAug, tDNewK, cCall, cAttr, frzE, List.mem_singleton, List.lookup_cons_self, List.getElem?_cons_zero, List.getElem?_cons_succ, List.set_cons_zero, List.set_cons_succ, Option.some.injEq, reduceCtorEq, if_true, if_false, Bool.true_eq_false, Bool.false_eq_true, decide_eq_true_eq, ite_true, ite_false, ↓reduceIte, List.length_cons, List.length_nil, true_and, and_true, exists_eq_left', exists_eq_left, List.cons.injEq]
    rw [List.take_length] at h3
    exact h _ D H' ⟨ys, hp1, hs1, rfl⟩ h1 hD h3
  · rintro j σ H' hj ⟨⟨v, rfl⟩, h1, h2, kv2, e2, r2⟩ R hR
    refine ⟨itl_go h2 (by simpa using hj), ?_⟩
    intro x H2 hy
    obtain ⟨rfl, hx⟩ := itl_yld h2 hy
    rw [List.getElem?_map] at hx
    cases ey : ys[j]? with
    | none => rw [ey] at hx; cases hx
    | some s =>
      rw [ey] at hx
      obtain rfl : V.str s = x := Option.some.inj hx
      try simp only [tSeq, tIfS, tNext, tRet, tRetN, tDrop, tAsg, tC, cVar, tOp, tCB, tCons, tNil, tTup, tLst, tIf, tAnd, tOr, tNot, cTest, cTru, oTru, cAnd, cOr, cNot, cUn, cChain, gName, cTupG, gCons, gNil, gSub, oLt, oLe, oGt, oGe, oIs, oIsNot, oSub, oMul, oFdiv, oMod, oPow, cPar, cPar3, cAug, tDNewK, cCall, cAttr, frzE, List.mem_singleton, List.lookup_cons_self, List.getElem?_cons_zero, List.getElem?_cons_succ, List.set_cons_zero, List.set_cons_succ, Option.some.injEq, reduceCtorEq, if_true, if_false, Bool.true_eq_false, Bool.false_eq_true, decide_eq_true_eq, ite_true, ite_false, ↓reduceIte, List.length_cons, List.length_nil, true_and, and_true, exists_eq_left', exists_eq_left, List.cons.injEq]
      have hd2 := h1 d _ hd
      have r3 : RR H2 kvs rs := r.tp h1.tp
      have hm : s ∈ rs.map (·.1) := hp1.mem_iff.mp (List.mem_of_getElem? ey)
      obtain ⟨pr, hpr⟩ := rget_mem hm
      rcases r3.get s with ⟨a, b⟩ | ⟨t, c, l', a, b, et⟩
      · rw [hpr] at b; cases b
      · rw [ix_dS hd2 a]
        have hlen : kv2.length < 1000 := by
          rw [r2.len]
          have : (ordr rs (ys.take j)).length ≤ ys.length := by unfold ordr; rw [List.length_map, List.length_take]; omega
          have h3 : ys.length = rs.length := by rw [hp1.length_eq, List.length_map]
          omega
        refine set_dS e2 hlen (hR _ _ ⟨⟨_, rfl⟩, ?_, ?_, _, upd_same, ?_⟩)
        · intro b o eb
          have hb : b ≠ D := ne_of_none eb hD
          rw [upd_ne hb]; exact h1 b o eb
        · rw [upd_ne hDl.symm]; exact h2
        · have r4 := RR.put (n := s) et r2
          have e5 : rput (ordr rs (ys.take j)) s (c, l') = ordr rs (ys.take (j + 1)) := by
            have := ordr_snoc (rs := rs) ndy ey
            rw [b] at this
            exact this
          rw [e5] at r4
          refine r4.tp fun b xs eb => ?_
          have hb : b ≠ D := fun z => by rw [z, e2] at eb; cases eb
          rw [upd_ne hb]; exact eb
theorem s_copied {p d : Addr} {rs : Rws} (W : WAt K H p d rs) (h : ∀ p' d' H', Ex H H' → H p' = none → H d' = none → WAt K H' p' d' rs → Q (.ref p') H') : SP K (n+2) "Wrongs.copied" [.ref p] H Q E := by
  refine o_Wrongs_copied ?_
  simp only [r_Wrongs_copied, cMk, tSeq, tIfS, tNext, tRet, tRetN, tDrop, tAsg, tC, cVar, tOp, tCB, tCons, tNil, tTup, tLst, tIf, tAnd, tOr, tNot, cTest, cTru, oTru, cAnd, cOr, cNot, cUn, cChain, gName, cTupG, gCons, gNil, gSub, oLt, oLe, oGt, oGe, oIs, oIsNot, oSub, oMul, oFdiv, oMod, oPow, cPar, cPar3, cAug, tDNewK, cCall, cAttr, frzE, List.mem_singleton, List.lookup_cons_self, List.getElem?_cons_zero, List.getElem?_cons_succ, List.set_cons_zero, List.set_cons_succ, Option.some.injEq, reduceCtorEq, if_true, if_false, Bool.true_eq_false, Bool.false_eq_true, decide_eq_true_eq, ite_true, ite_false, ↓reduceIte, List.length_cons, List.length_nil, true_and, and_true, exists_eq_left', exists_eq_left, List.cons.injEq]
  intro x dx hx hdx ne
  refine s_init (dx := dx) upd_same fun d0 H1 W1 hd0 k1 => ?_
  try simp only [tSeq, tIfS, tNext, tRet, tRetN, tDrop, tAsg, tC, cVar, tOp, tCB, tCons, tNil, tTup, tLst, tIf, tAnd, tOr, tNot, cTest, cTru, oTru, cAnd, cOr, cNot, cUn, cChain, gName, cTupG, gCons, gNil, gSub, oLt, oLe, oGt, oGe, oIs, oIsNot, oSub, oMul, oFdiv, oMod, oPow, cPar, cPar3, cAug, tDNewK, cCall, cAttr, frzE, List.mem_singleton, List.lookup_cons_self, List.getElem?_cons_zero, List.getElem?_cons_succ, List.set_cons_zero, List.set_cons_succ, Option.some.injEq, reduceCtorEq, if_true, if_false, Bool.true_eq_false, Bool.false_eq_true, decide_eq_true_eq, ite_true, ite_false, ↓reduceIte, List.length_cons, List.length_nil, true_and, and_true, exists_eq_left', exists_eq_left, List.cons.injEq]
  have ex1 : Ex H H1 := fun b o e => k1 b o (ne_of_none e hx) (by rw [upd_ne (ne_of_none e hx), upd_ne (ne_of_none e hdx)]; exact e)
  obtain ⟨⟨dx0, hp⟩, kvs, hd, r⟩ := W.ex ex1
  simp only [cFldS, tSeq, tIfS, tNext, tRet, tRetN, tDrop, tAsg, tC, cVar, tOp, tCB, tCons, tNil, tTup, tLst, tIf, tAnd, tOr, tNot, cTest, cTru, oTru, cAnd, cOr, cNot, cUn, cChain, gName, cTupG, gCons, gNil, gSub, oLt, oLe, oGt, oGe, oIs, oIsNot, oSub, oMul, oFdiv, oMod, oPow, cPar, cPar3, cAug, tDNewK, cCall, cAttr, frzE, List.mem_singleton, List.lookup_cons_self, List.getElem?_cons_zero, List.getElem?_cons_succ, List.set_cons_zero, List.set_cons_succ, Option.some.injEq, reduceCtorEq, if_true, if_false, Bool.true_eq_false, Bool.false_eq_true, decide_eq_true_eq, ite_true, ite_false, ↓reduceIte, List.length_cons, List.length_nil, true_and, and_true, exists_eq_left', exists_eq_left, List.cons.injEq]
  rw [ins_ins hp]
  try simp only [tSeq, tIfS, tNext, tRet, tRetN, tDrop, tAsg, tC, cVar, tOp, tCB, tCons, tNil, tTup, tLst, tIf, tAnd, tOr, tNot, cTest, cTru, oTru, cAnd, cOr, cNot, cUn, cChain, gName, cTupG, gCons, gNil, gSub, oLt, oLe, oGt, oGe, oIs, oIsNot, oSub, oMul, oFdiv, oMod, oPow, cPar, cPar3, cAug, tDNewK, cCall, cAttr, frzE, List.mem_singleton, List.lookup_cons_self, List.getElem?_cons_zero, List.getElem?_cons_succ, List.set_cons_zero, List.set_cons_succ, Option.some.injEq, reduceCtorEq, if_true, if_false, Bool.true_eq_false, Bool.false_eq_true, decide_eq_true_eq, ite_true, ite_false, ↓reduceIte, List.length_cons, List.length_nil, true_and, and_true, exists_eq_left', exists_eq_left, List.cons.injEq]
  simp only [bDict, look_of_dK hd]
  intro l hl
  obtain ⟨⟨dx1, hp1⟩, _⟩ := W1
  have nxl : x ≠ l := ne_of_none hp1 hl
  rw [upd_ne nxl, hp1]
  try simp only [tSeq, tIfS, tNext, tRet, tRetN, tDrop, tAsg, tC, cVar, tOp, tCB, tCons, tNil, tTup, tLst, tIf, tAnd, tOr, tNot, cTest, cTru, oTru, cAnd, cOr, cNot, cUn, cChain, gName, cTupG, gCons, gNil, gSub, oLt, oLe, oGt, oGe, oIs, oIsNot, oSub, oMul, oFdiv, oMod, oPow, cPar, cPar3, cAug, tDNewK, cCall, cAttr, frzE, List.mem_singleton, List.lookup_cons_self, List.getElem?_cons_zero, List.getElem?_cons_succ, List.set_cons_zero, List.set_cons_succ, Option.some.injEq, reduceCtorEq, if_true, if_false, Bool.true_eq_false, Bool.false_eq_true, decide_eq_true_eq, ite_true, ite_false, ↓reduceIte, List.length_cons, List.length_nil, true_and, and_true, exists_eq_left', exists_eq_left, List.cons.injEq]
  refine ⟨by simp, ?_⟩
  refine h x l _ ?_ hx (ex1.none hl) ⟨⟨dx1, ?_⟩, kvs, ?_, ?_⟩
  · intro b o e
    rw [upd_ne (ne_of_none e hx), upd_ne (ne_of_none e (ex1.none hl))]; exact ex1 b o e
  · rw [upd_same]; rfl
  · rw [upd_ne nxl.symm, upd_same]
  · refine r.tp fun t xs e => ?_
    rw [upd_ne (fun z => by rw [z, hp1] at e; cases e), upd_ne (ne_of_none e hl)]; exact e
end
end WR.L

set_option Elab.async false
set_option linter.all false
set_option maxRecDepth 100000
set_option maxHeartbeats 1000000
namespace WR.L
open PySem PySem.Spec PyProof.Rows L2
section
variable {K : PySem.W.Frag} {n : Nat} {H : Hp} {Q : VK} {E : XK}
theorem kb_int_bool : kitB "int" "bool" = some false := by kernel_rfl
theorem kb_int_int : kitB "int" "int" = some true := by kernel_rfl
theorem kb_str_bool : kitB "str" "bool" = some false := by kernel_rfl
theorem kb_str_int : kitB "str" "int" = some false := by kernel_rfl
theorem kb_bool_bool : kitB "bool" "bool" = some true := by kernel_rfl
theorem kb_dict_bool : kitB "dict" "bool" = some false := by kernel_rfl
theorem kb_dict_int : kitB "dict" "int" = some false := by kernel_rfl
theorem kb_dict_str : kitB "dict" "str" = some false := by kernel_rfl
theorem kb_dict_dict : kitB "dict" "dict" = some true := by kernel_rfl
theorem kb_tuple_bool : kitB "tuple" "bool" = some false := by kernel_rfl
theorem kb_tuple_int : kitB "tuple" "int" = some false := by kernel_rfl
theorem kb_tuple_str : kitB "tuple" "str" = some false := by kernel_rfl
theorem kb_tuple_dict : kitB "tuple" "dict" = some false := by kernel_rfl
theorem kb_tuple_tuple : kitB "tuple" "tuple" = some true := by kernel_rfl
theorem kb_list_bool : kitB "list" "bool" = some false := by kernel_rfl
theorem kb_list_int : kitB "list" "int" = some false := by kernel_rfl
theorem kb_list_str : kitB "list" "str" = some false := by kernel_rfl
theorem kb_list_dict : kitB "list" "dict" = some false := by kernel_rfl
theorem kb_list_tuple : kitB "list" "tuple" = some false := by kernel_rfl
theorem kb_list_list : kitB "list" "list" = some true := by kernel_rfl
theorem s_alike_int {i : Int} (h : Q (.bl true) H) : SP K (n+1) "_law_alike" [.int i, .int i] H Q E := by
  refine o__law_alike ?_
  unfold r__law_alike
  refine seq_ fun N1 h1 => ?_
  try simp only [tSeq, tIfS, tNext, tRet, tRetN, tDrop, tAsg, tC, cVar, tOp, tCB, tCons, tNil, tTup, tLst, tIf, tAnd, tOr, tNot, cTest, cTru, oTru, cAnd, cOr, cNot, cUn, cChain, gName, cTupG, gCons, gNil, gSub, oLt, oLe, oGt, oGe, oIs, oIsNot, oSub, oMul, oFdiv, oMod, oPow, cPar, cPar3, cAug, tDNewK, cCall, cAttr, frzE, List.mem_singleton, List.lookup_cons_self, List.getElem?_cons_zero, List.getElem?_cons_succ, List.set_cons_zero, List.set_cons_succ, Option.some.injEq, reduceCtorEq, if_true, if_false, Bool.true_eq_false, Bool.false_eq_true, decide_eq_true_eq, ite_true, ite_false, ↓reduceIte, List.length_cons, List.length_nil, true_and, and_true, exists_eq_left', exists_eq_left, List.cons.injEq]
  refine h1 _ _ (seq_ fun N2 h2 => ?_)
  try simp only [tSeq, tIfS, tNext, tRet, tRetN, tDrop, tAsg, tC, cVar, tOp, tCB, tCons, tNil, tTup, tLst, tIf, tAnd, tOr, tNot, cTest, cTru, oTru, cAnd, cOr, cNot, cUn, cChain, gName, cTupG, gCons, gNil, gSub, oLt, oLe, oGt, oGe, oIs, oIsNot, oSub, oMul, oFdiv, oMod, oPow, cPar, cPar3, cAug, tDNewK, cCall, cAttr, frzE, List.mem_singleton, List.lookup_cons_self, List.getElem?_cons_zero, List.getElem?_cons_succ, List.set_cons_zero, List.set_cons_succ, Option.some.injEq, reduceCtorEq, if_true, if_false, Bool.true_eq_false, Bool.false_eq_true, decide_eq_true_eq, ite_true, ite_false, ↓reduceIte, List.length_cons, List.length_nil, true_and, and_true, exists_eq_left', exists_eq_left, List.cons.injEq]
  rw [isi_ty (n := "int") rfl kb_int_bool]
  try simp only [tSeq, tIfS, tNext, tRet, tRetN, tDrop, tAsg, tC, cVar, tOp, tCB, tCons, tNil, tTup, tLst, tIf, tAnd, tOr, tNot, cTest, cTru, oTru, cAnd, cOr, cNot, cUn, cChain, gName, cTupG, gCons, gNil, gSub, oLt, oLe, oGt, oGe, oIs, oIsNot, oSub, oMul, oFdiv, oMod, oPow, cPar, cPar3, cAug, tDNewK, cCall, cAttr, frzE, List.mem_singleton, List.lookup_cons_self, List.getElem?_cons_zero, List.getElem?_cons_succ, List.set_cons_zero, List.set_cons_succ, Option.some.injEq, reduceCtorEq, if_true, if_false, Bool.true_eq_false, Bool.false_eq_true, decide_eq_true_eq, ite_true, ite_false, ↓reduceIte, List.length_cons, List.length_nil, true_and, and_true, exists_eq_left', exists_eq_left, List.cons.injEq]
  refine h2 _ _ (seq_ fun N3 h3 => ?_)
  try simp only [tSeq, tIfS, tNext, tRet, tRetN, tDrop, tAsg, tC, cVar, tOp, tCB, tCons, tNil, tTup, tLst, tIf, tAnd, tOr, tNot, cTest, cTru, oTru, cAnd, cOr, cNot, cUn, cChain, gName, cTupG, gCons, gNil, gSub, oLt, oLe, oGt, oGe, oIs, oIsNot, oSub, oMul, oFdiv, oMod, oPow, cPar, cPar3, cAug, tDNewK, cCall, cAttr, frzE, List.mem_singleton, List.lookup_cons_self, List.getElem?_cons_zero, List.getElem?_cons_succ, List.set_cons_zero, List.set_cons_succ, Option.some.injEq, reduceCtorEq, if_true, if_false, Bool.true_eq_false, Bool.false_eq_true, decide_eq_true_eq, ite_true, ite_false, ↓reduceIte, List.length_cons, List.length_nil, true_and, and_true, exists_eq_left', exists_eq_left, List.cons.injEq]
  rw [isi_ty (n := "int") rfl kb_int_int]
  try simp only [tSeq, tIfS, tNext, tRet, tRetN, tDrop, tAsg, tC, cVar, tOp, tCB, tCons, tNil, tTup, tLst, tIf, tAnd, tOr, tNot, cTest, cTru, oTru, cAnd, cOr, cNot, cUn, cChain, gName, cTupG, gCons, gNil, gSub, oLt, oLe, oGt, oGe, oIs, oIsNot, oSub, oMul, oFdiv, oMod, oPow, cPar, cPar3, cAug, tDNewK, cCall, cAttr, frzE, List.mem_singleton, List.lookup_cons_self, List.getElem?_cons_zero, List.getElem?_cons_succ, List.set_cons_zero, List.set_cons_succ, Option.some.injEq, reduceCtorEq, if_true, if_false, Bool.true_eq_false, Bool.false_eq_true, decide_eq_true_eq, ite_true, ite_false, ↓reduceIte, List.length_cons, List.length_nil, true_and, and_true, exists_eq_left', exists_eq_left, List.cons.injEq]
  rw [isi_ty (n := "int") rfl kb_int_int]
  try simp only [tSeq, tIfS, tNext, tRet, tRetN, tDrop, tAsg, tC, cVar, tOp, tCB, tCons, tNil, tTup, tLst, tIf, tAnd, tOr, tNot, cTest, cTru, oTru, cAnd, cOr, cNot, cUn, cChain, gName, cTupG, gCons, gNil, gSub, oLt, oLe, oGt, oGe, oIs, oIsNot, oSub, oMul, oFdiv, oMod, oPow, cPar, cPar3, cAug, tDNewK, cCall, cAttr, frzE, List.mem_singleton, List.lookup_cons_self, List.getElem?_cons_zero, List.getElem?_cons_succ, List.set_cons_zero, List.set_cons_succ, Option.some.injEq, reduceCtorEq, if_true, if_false, Bool.true_eq_false, Bool.false_eq_true, decide_eq_true_eq, ite_true, ite_false, ↓reduceIte, List.length_cons, List.length_nil, true_and, and_true, exists_eq_left', exists_eq_left, List.cons.injEq]
  rw [isi_ty (n := "int") rfl kb_int_bool]
  try simp only [tSeq, tIfS, tNext, tRet, tRetN, tDrop, tAsg, tC, cVar, tOp, tCB, tCons, tNil, tTup, tLst, tIf, tAnd, tOr, tNot, cTest, cTru, oTru, cAnd, cOr, cNot, cUn, cChain, gName, cTupG, gCons, gNil, gSub, oLt, oLe, oGt, oGe, oIs, oIsNot, oSub, oMul, oFdiv, oMod, oPow, cPar, cPar3, cAug, tDNewK, cCall, cAttr, frzE, List.mem_singleton, List.lookup_cons_self, List.getElem?_cons_zero, List.getElem?_cons_succ, List.set_cons_zero, List.set_cons_succ, Option.some.injEq, reduceCtorEq, if_true, if_false, Bool.true_eq_false, Bool.false_eq_true, decide_eq_true_eq, ite_true, ite_false, ↓reduceIte, List.length_cons, List.length_nil, true_and, and_true, exists_eq_left', exists_eq_left, List.cons.injEq]
  exact eq_scal rfl rfl rfl (by simpa using h)
theorem s_alike_bl {i : Bool} (h : Q (.bl true) H) : SP K (n+1) "_law_alike" [.bl i, .bl i] H Q E := by
  refine o__law_alike ?_
  unfold r__law_alike
  refine seq_ fun N1 h1 => ?_
  try simp only [tSeq, tIfS, tNext, tRet, tRetN, tDrop, tAsg, tC, cVar, tOp, tCB, tCons, tNil, tTup, tLst, tIf, tAnd, tOr, tNot, cTest, cTru, oTru, cAnd, cOr, cNot, cUn, cChain, gName, cTupG, gCons, gNil, gSub, oLt, oLe, oGt, oGe, oIs, oIsNot, oSub, oMul, oFdiv, oMod, oPow, cPar, cPar3, cAug, tDNewK, cCall, cAttr, frzE, List.mem_singleton, List.lookup_cons_self, List.getElem?_cons_zero, List.getElem?_cons_succ, List.set_cons_zero, List.set_cons_succ, Option.some.injEq, reduceCtorEq, if_true, if_false, Bool.true_eq_false, Bool.false_eq_true, decide_eq_true_eq, ite_true, ite_false, ↓reduceIte, List.length_cons, List.length_nil, true_and, and_true, exists_eq_left', exists_eq_left, List.cons.injEq]
  refine h1 _ _ (seq_ fun N2 h2 => ?_)
  try simp only [tSeq, tIfS, tNext, tRet, tRetN, tDrop, tAsg, tC, cVar, tOp, tCB, tCons, tNil, tTup, tLst, tIf, tAnd, tOr, tNot, cTest, cTru, oTru, cAnd, cOr, cNot, cUn, cChain, gName, cTupG, gCons, gNil, gSub, oLt, oLe, oGt, oGe, oIs, oIsNot, oSub, oMul, oFdiv, oMod, oPow, cPar, cPar3, cAug, tDNewK, cCall, cAttr, frzE, List.mem_singleton, List.lookup_cons_self, List.getElem?_cons_zero, List.getElem?_cons_succ, List.set_cons_zero, List.set_cons_succ, Option.some.injEq, reduceCtorEq, if_true, if_false, Bool.true_eq_false, Bool.false_eq_true, decide_eq_true_eq, ite_true, ite_false, ↓reduceIte, List.length_cons, List.length_nil, true_and, and_true, exists_eq_left', exists_eq_left, List.cons.injEq]
  rw [isi_ty (n := "bool") rfl kb_bool_bool]
  try simp only [tSeq, tIfS, tNext, tRet, tRetN, tDrop, tAsg, tC, cVar, tOp, tCB, tCons, tNil, tTup, tLst, tIf, tAnd, tOr, tNot, cTest, cTru, oTru, cAnd, cOr, cNot, cUn, cChain, gName, cTupG, gCons, gNil, gSub, oLt, oLe, oGt, oGe, oIs, oIsNot, oSub, oMul, oFdiv, oMod, oPow, cPar, cPar3, cAug, tDNewK, cCall, cAttr, frzE, List.mem_singleton, List.lookup_cons_self, List.getElem?_cons_zero, List.getElem?_cons_succ, List.set_cons_zero, List.set_cons_succ, Option.some.injEq, reduceCtorEq, if_true, if_false, Bool.true_eq_false, Bool.false_eq_true, decide_eq_true_eq, ite_true, ite_false, ↓reduceIte, List.length_cons, List.length_nil, true_and, and_true, exists_eq_left', exists_eq_left, List.cons.injEq]
  rw [isi_ty (n := "bool") rfl kb_bool_bool]
  try simp only [tSeq, tIfS, tNext, tRet, tRetN, tDrop, tAsg, tC, cVar, tOp, tCB, tCons, tNil, tTup, tLst, tIf, tAnd, tOr, tNot, cTest, cTru, oTru, cAnd, cOr, cNot, cUn, cChain, gName, cTupG, gCons, gNil, gSub, oLt, oLe, oGt, oGe, oIs, oIsNot, oSub, oMul, oFdiv, oMod, oPow, cPar, cPar3, cAug, tDNewK, cCall, cAttr, frzE, List.mem_singleton, List.lookup_cons_self, List.getElem?_cons_zero, List.getElem?_cons_succ, List.set_cons_zero, List.set_cons_succ, Option.some.injEq, reduceCtorEq, if_true, if_false, Bool.true_eq_false, Bool.false_eq_true, decide_eq_true_eq, ite_true, ite_false, ↓reduceIte, List.length_cons, List.length_nil, true_and, and_true, exists_eq_left', exists_eq_left, List.cons.injEq]
  exact eq_scal rfl rfl rfl (by simpa using h)
theorem s_alike_str {i : Str} (h : Q (.bl true) H) : SP K (n+1) "_law_alike" [.str i, .str i] H Q E := by
  refine o__law_alike ?_
  unfold r__law_alike
  refine seq_ fun N1 h1 => ?_
  try simp only [tSeq, tIfS, tNext, tRet, tRetN, tDrop, tAsg, tC, cVar, tOp, tCB, tCons, tNil, tTup, tLst, tIf, tAnd, tOr, tNot, cTest, cTru, oTru, cAnd, cOr, cNot, cUn, cChain, gName, cTupG, gCons, gNil, gSub, oLt, oLe, oGt, oGe, oIs, oIsNot, oSub, oMul, oFdiv, oMod, oPow, cPar, cPar3, cAug, tDNewK, cCall, cAttr, frzE, List.mem_singleton, List.lookup_cons_self, List.getElem?_cons_zero, List.getElem?_cons_succ, List.set_cons_zero, List.set_cons_succ, Option.some.injEq, reduceCtorEq, if_true, if_false, Bool.true_eq_false, Bool.false_eq_true, decide_eq_true_eq, ite_true, ite_false, ↓reduceIte, List.length_cons, List.length_nil, true_and, and_true, exists_eq_left', exists_eq_left, List.cons.injEq]
  refine h1 _ _ (seq_ fun N2 h2 => ?_)
  try simp only [tSeq, tIfS, tNext, tRet, tRetN, tDrop, tAsg, tC, cVar, tOp, tCB, tCons, tNil, tTup, tLst, tIf, tAnd, tOr, tNot, cTest, cTru, oTru, cAnd, cOr, cNot, cUn, cChain, gName, cTupG, gCons, gNil, gSub, oLt, oLe, oGt, oGe, oIs, oIsNot, oSub, oMul, oFdiv, oMod, oPow, cPar, cPar3, cAug, tDNewK, cCall, cAttr, frzE, List.mem_singleton, List.lookup_cons_self, List.getElem?_cons_zero, List.getElem?_cons_succ, List.set_cons_zero, List.set_cons_succ, Option.some.injEq, reduceCtorEq, if_true, if_false, Bool.true_eq_false, Bool.false_eq_true, decide_eq_true_eq, ite_true, ite_false, ↓reduceIte, List.length_cons, List.length_nil, true_and, and_true, exists_eq_left', exists_eq_left, List.cons.injEq]
  rw [isi_ty (n := "str") rfl kb_str_bool]
  try simp only [tSeq, tIfS, tNext, tRet, tRetN, tDrop, tAsg, tC, cVar, tOp, tCB, tCons, tNil, tTup, tLst, tIf, tAnd, tOr, tNot, cTest, cTru, oTru, cAnd, cOr, cNot, cUn, cChain, gName, cTupG, gCons, gNil, gSub, oLt, oLe, oGt, oGe, oIs, oIsNot, oSub, oMul, oFdiv, oMod, oPow, cPar, cPar3, cAug, tDNewK, cCall, cAttr, frzE, List.mem_singleton, List.lookup_cons_self, List.getElem?_cons_zero, List.getElem?_cons_succ, List.set_cons_zero, List.set_cons_succ, Option.some.injEq, reduceCtorEq, if_true, if_false, Bool.true_eq_false, Bool.false_eq_true, decide_eq_true_eq, ite_true, ite_false, ↓reduceIte, List.length_cons, List.length_nil, true_and, and_true, exists_eq_left', exists_eq_left, List.cons.injEq]
  refine h2 _ _ (seq_ fun N3 h3 => ?_)
  try simp only [tSeq, tIfS, tNext, tRet, tRetN, tDrop, tAsg, tC, cVar, tOp, tCB, tCons, tNil, tTup, tLst, tIf, tAnd, tOr, tNot, cTest, cTru, oTru, cAnd, cOr, cNot, cUn, cChain, gName, cTupG, gCons, gNil, gSub, oLt, oLe, oGt, oGe, oIs, oIsNot, oSub, oMul, oFdiv, oMod, oPow, cPar, cPar3, cAug, tDNewK, cCall, cAttr, frzE, List.mem_singleton, List.lookup_cons_self, List.getElem?_cons_zero, List.getElem?_cons_succ, List.set_cons_zero, List.set_cons_succ, Option.some.injEq, reduceCtorEq, if_true, if_false, Bool.true_eq_false, Bool.false_eq_true, decide_eq_true_eq, ite_true, ite_false, ↓reduceIte, List.length_cons, List.length_nil, true_and, and_true, exists_eq_left', exists_eq_left, List.cons.injEq]
  rw [isi_ty (n := "str") rfl kb_str_int]
  try simp only [tSeq, tIfS, tNext, tRet, tRetN, tDrop, tAsg, tC, cVar, tOp, tCB, tCons, tNil, tTup, tLst, tIf, tAnd, tOr, tNot, cTest, cTru, oTru, cAnd, cOr, cNot, cUn, cChain, gName, cTupG, gCons, gNil, gSub, oLt, oLe, oGt, oGe, oIs, oIsNot, oSub, oMul, oFdiv, oMod, oPow, cPar, cPar3, cAug, tDNewK, cCall, cAttr, frzE, List.mem_singleton, List.lookup_cons_self, List.getElem?_cons_zero, List.getElem?_cons_succ, List.set_cons_zero, List.set_cons_succ, Option.some.injEq, reduceCtorEq, if_true, if_false, Bool.true_eq_false, Bool.false_eq_true, decide_eq_true_eq, ite_true, ite_false, ↓reduceIte, List.length_cons, List.length_nil, true_and, and_true, exists_eq_left', exists_eq_left, List.cons.injEq]
  refine h3 _ _ (seq_ fun N4 h4 => ?_)
  try simp only [tSeq, tIfS, tNext, tRet, tRetN, tDrop, tAsg, tC, cVar, tOp, tCB, tCons, tNil, tTup, tLst, tIf, tAnd, tOr, tNot, cTest, cTru, oTru, cAnd, cOr, cNot, cUn, cChain, gName, cTupG, gCons, gNil, gSub, oLt, oLe, oGt, oGe, oIs, oIsNot, oSub, oMul, oFdiv, oMod, oPow, cPar, cPar3, cAug, tDNewK, cCall, cAttr, frzE, List.mem_singleton, List.lookup_cons_self, List.getElem?_cons_zero, List.getElem?_cons_succ, List.set_cons_zero, List.set_cons_succ, Option.some.injEq, reduceCtorEq, if_true, if_false, Bool.true_eq_false, Bool.false_eq_true, decide_eq_true_eq, ite_true, ite_false, ↓reduceIte, List.length_cons, List.length_nil, true_and, and_true, exists_eq_left', exists_eq_left, List.cons.injEq]
  rw [isi_ty (n := "str") rfl kb_ss]
  try simp only [tSeq, tIfS, tNext, tRet, tRetN, tDrop, tAsg, tC, cVar, tOp, tCB, tCons, tNil, tTup, tLst, tIf, tAnd, tOr, tNot, cTest, cTru, oTru, cAnd, cOr, cNot, cUn, cChain, gName, cTupG, gCons, gNil, gSub, oLt, oLe, oGt, oGe, oIs, oIsNot, oSub, oMul, oFdiv, oMod, oPow, cPar, cPar3, cAug, tDNewK, cCall, cAttr, frzE, List.mem_singleton, List.lookup_cons_self, List.getElem?_cons_zero, List.getElem?_cons_succ, List.set_cons_zero, List.set_cons_succ, Option.some.injEq, reduceCtorEq, if_true, if_false, Bool.true_eq_false, Bool.false_eq_true, decide_eq_true_eq, ite_true, ite_false, ↓reduceIte, List.length_cons, List.length_nil, true_and, and_true, exists_eq_left', exists_eq_left, List.cons.injEq]
  rw [isi_ty (n := "str") rfl kb_ss]
  try simp only [tSeq, tIfS, tNext, tRet, tRetN, tDrop, tAsg, tC, cVar, tOp, tCB, tCons, tNil, tTup, tLst, tIf, tAnd, tOr, tNot, cTest, cTru, oTru, cAnd, cOr, cNot, cUn, cChain, gName, cTupG, gCons, gNil, gSub, oLt, oLe, oGt, oGe, oIs, oIsNot, oSub, oMul, oFdiv, oMod, oPow, cPar, cPar3, cAug, tDNewK, cCall, cAttr, frzE, List.mem_singleton, List.lookup_cons_self, List.getElem?_cons_zero, List.getElem?_cons_succ, List.set_cons_zero, List.set_cons_succ, Option.some.injEq, reduceCtorEq, if_true, if_false, Bool.true_eq_false, Bool.false_eq_true, decide_eq_true_eq, ite_true, ite_false, ↓reduceIte, List.length_cons, List.length_nil, true_and, and_true, exists_eq_left', exists_eq_left, List.cons.injEq]
  exact eq_scal rfl rfl rfl (by simpa using h)
/-- two sequences alike item by item -/
theorem lc_alike {N m : Nat} {a b : Addr} {xs ys : List V} {wi : TI} (hwi : ∀ R : It → Hp → Prop, R (Itr 0 N) H → wi [some (.ref a), some (.ref b), none, none] H R)
    (hr : ∀ i x y H' (R : VK), i < N → xs[i]? = some x → ys[i]? = some y → Ex H H' → (∀ H2, Ex H' H2 → R (.bl true) H2) → SP K m "_law_alike" [x, y] H' R (fun _ _ _ => False))
    (hN : N ≤ 1000) (hx : xs.length = N) (hy : ys.length = N)
    (hla : ∀ H', Ex H H' → ∀ (i : Nat) x, xs[i]? = some x → ∀ R : VK, R x H' → oIx K (.ref a) (.int i) H' R) (hlb : ∀ H', Ex H H' → ∀ (i : Nat) x, ys[i]? = some x → ∀ R : VK, R x H' → oIx K (.ref b) (.int i) H' R)
    (h : ∀ D H', Ex H H' → H' D = some (.lst ((List.replicate N true).map V.bl)) → Q (.ref D) H') :
    cLcL wi (gName 2) tYes (cCall (SP K m "_law_alike") 2 0 (fun vs _ => vs) (tCons (tOp (oIx K) (cVar 0) (cVar 2)) (tCons (tOp (oIx K) (cVar 1) (cVar 2)) tNil)) tNil wNone) [2] [some (.ref a), some (.ref b), none, none] H Q := by
  refine .inl (hwi _ ?_)
  intro D hD
  refine lpc_inv (n := N) (fun j H' => Ex H H' ∧ H' D = some (.lst ((List.replicate j true).map V.bl))) ?_ ?_ ⟨Ex.refl.new hD, by rw [upd_same]; rfl⟩
  · rintro H' ⟨h1, h2⟩
    exact ⟨Nat.le_refl _, h D H' h1 h2⟩
  · rintro j H' hj ⟨h1, h2⟩ R hR
    refine ⟨hj, ?_⟩
    rintro x H2 ⟨rfl, rfl⟩
    refine ⟨rfl, ?_⟩
    simp only [tYes, wipe, tSeq, tIfS, tNext, tRet, tRetN, tDrop, tAsg, tC, cVar, tOp, tCB, tCons, tNil, tTup, tLst, tIf, tAnd, tOr, tNot, cTest, cTru, oTru, cAnd, cOr, cNot, cUn, cChain, gName, cTupG, gCons, gNil, gSub, oLt, oLe, oGt, oGe, oIs, oIsNot, oSub, oMul, oFdiv, oMod, oPow, cPar, cPar3, cAug, tDNewK, cCall, cAttr, frzE, List.mem_singleton, List.lookup_cons_self, List.getElem?_cons_zero, List.getElem?_cons_succ, List.set_cons_zero, List.set_cons_succ, Option.some.injEq, reduceCtorEq, if_true, if_false, Bool.true_eq_false, Bool.false_eq_true, decide_eq_true_eq, ite_true, ite_false, ↓reduceIte, List.length_cons, List.length_nil, true_and, and_true, exists_eq_left', exists_eq_left, List.cons.injEq]
    have ex : xs[j]? = some xs[j] := by simp
    have ey : ys[j]? = some ys[j] := by simp
    have e0 : (0 + (j : Int)) = (j : Int) := by omega
    rw [e0]
    refine hla H2 h1 j _ ex _ ?_
    try simp only [tSeq, tIfS, tNext, tRet, tRetN, tDrop, tAsg, tC, cVar, tOp, tCB, tCons, tNil, tTup, tLst, tIf, tAnd, tOr, tNot, cTest, cTru, oTru, cAnd, cOr, cNot, cUn, cChain, gName, cTupG, gCons, gNil, gSub, oLt, oLe, oGt, oGe, oIs, oIsNot, oSub, oMul, oFdiv, oMod, oPow, cPar, cPar3, cAug, tDNewK, cCall, cAttr, frzE, List.mem_singleton, List.lookup_cons_self, List.getElem?_cons_zero, List.getElem?_cons_succ, List.set_cons_zero, List.set_cons_succ, Option.some.injEq, reduceCtorEq, if_true, if_false, Bool.true_eq_false, Bool.false_eq_true, decide_eq_true_eq, ite_true, ite_false, ↓reduceIte, List.length_cons, List.length_nil, true_and, and_true, exists_eq_left', exists_eq_left, List.cons.injEq]
    refine hlb H2 h1 j _ ey _ ?_
    try simp only [tSeq, tIfS, tNext, tRet, tRetN, tDrop, tAsg, tC, cVar, tOp, tCB, tCons, tNil, tTup, tLst, tIf, tAnd, tOr, tNot, cTest, cTru, oTru, cAnd, cOr, cNot, cUn, cChain, gName, cTupG, gCons, gNil, gSub, oLt, oLe, oGt, oGe, oIs, oIsNot, oSub, oMul, oFdiv, oMod, oPow, cPar, cPar3, cAug, tDNewK, cCall, cAttr, frzE, List.mem_singleton, List.lookup_cons_self, List.getElem?_cons_zero, List.getElem?_cons_succ, List.set_cons_zero, List.set_cons_succ, Option.some.injEq, reduceCtorEq, if_true, if_false, Bool.true_eq_false, Bool.false_eq_true, decide_eq_true_eq, ite_true, ite_false, ↓reduceIte, List.length_cons, List.length_nil, true_and, and_true, exists_eq_left', exists_eq_left, List.cons.injEq]
    refine hr j _ _ _ _ hj ex ey h1 fun H3 e3 => ?_
    refine ⟨_, e3 _ _ h2, ?_, hR _ ⟨?_, ?_⟩⟩
    · rw [List.length_map, List.length_replicate]
      exact small1000 (by omega)
    · intro b o eb
      have hb : b ≠ D := ne_of_none eb hD
      rw [upd_ne hb]; exact e3 _ _ (h1 b o eb)
    · rw [upd_same, List.replicate_succ']
      simp
theorem all_true (N : Nat) : (List.replicate N true).all id = true := by simp
/-- what stands behind the looks at the kinds, both being tuples or both lists of N items -/
theorem s_alike_seq {a b : Addr} {xs ys : List V} {N : Nat} (tup : Bool) (ha : look K H a = some (if tup then .tup xs else .lst xs)) (hb : look K H b = some (if tup then .tup ys else .lst ys)) (hN : N ≤ 1000) (hx : xs.length = N) (hy : ys.length = N)
    (hka : H a ≠ none) (hkb : H b ≠ none)
    (hr : ∀ i x y H' (R : VK), i < N → xs[i]? = some x → ys[i]? = some y → Ex H H' → (∀ H2, Ex H' H2 → R (.bl true) H2) → SP K n "_law_alike" [x, y] H' R (fun _ _ _ => False))
    (h : ∀ H', Ex H H' → Q (.bl true) H') : SP K (n+1) "_law_alike" [.ref a, .ref b] H Q E := by
  refine o__law_alike ?_
  unfold r__law_alike
  refine seq_ fun N1 h1 => ?_
  try simp only [tSeq, tIfS, tNext, tRet, tRetN, tDrop, tAsg, tC, cVar, tOp, tCB, tCons, tNil, tTup, tLst, tIf, tAnd, tOr, tNot, cTest, cTru, oTru, cAnd, cOr, cNot, cUn, cChain, gName, cTupG, gCons, gNil, gSub, oLt, oLe, oGt, oGe, oIs, oIsNot, oSub, oMul, oFdiv, oMod, oPow, cPar, cPar3, cAug, tDNewK, cCall, cAttr, frzE, List.mem_singleton, List.lookup_cons_self, List.getElem?_cons_zero, List.getElem?_cons_succ, List.set_cons_zero, List.set_cons_succ, Option.some.injEq, reduceCtorEq, if_true, if_false, Bool.true_eq_false, Bool.false_eq_true, decide_eq_true_eq, ite_true, ite_false, ↓reduceIte, List.length_cons, List.length_nil, true_and, and_true, exists_eq_left', exists_eq_left, List.cons.injEq]
  refine h1 _ _ (seq_ fun N2 h2 => ?_)
  cases tup with
  | true =>
    simp only [if_true] at ha hb
    have tb := ty_tup hb
    have ta := ty_tup ha
    try simp only [tSeq, tIfS, tNext, tRet, tRetN, tDrop, tAsg, tC, cVar, tOp, tCB, tCons, tNil, tTup, tLst, tIf, tAnd, tOr, tNot, cTest, cTru, oTru, cAnd, cOr, cNot, cUn, cChain, gName, cTupG, gCons, gNil, gSub, oLt, oLe, oGt, oGe, oIs, oIsNot, oSub, oMul, oFdiv, oMod, oPow, cPar, cPar3, cAug, tDNewK, cCall, cAttr, frzE, List.mem_singleton, List.lookup_cons_self, List.getElem?_cons_zero, List.getElem?_cons_succ, List.set_cons_zero, List.set_cons_succ, Option.some.injEq, reduceCtorEq, if_true, if_false, Bool.true_eq_false, Bool.false_eq_true, decide_eq_true_eq, ite_true, ite_false, ↓reduceIte, List.length_cons, List.length_nil, true_and, and_true, exists_eq_left', exists_eq_left, List.cons.injEq]
    rw [isi_ty tb kb_tuple_bool]
    try simp only [tSeq, tIfS, tNext, tRet, tRetN, tDrop, tAsg, tC, cVar, tOp, tCB, tCons, tNil, tTup, tLst, tIf, tAnd, tOr, tNot, cTest, cTru, oTru, cAnd, cOr, cNot, cUn, cChain, gName, cTupG, gCons, gNil, gSub, oLt, oLe, oGt, oGe, oIs, oIsNot, oSub, oMul, oFdiv, oMod, oPow, cPar, cPar3, cAug, tDNewK, cCall, cAttr, frzE, List.mem_singleton, List.lookup_cons_self, List.getElem?_cons_zero, List.getElem?_cons_succ, List.set_cons_zero, List.set_cons_succ, Option.some.injEq, reduceCtorEq, if_true, if_false, Bool.true_eq_false, Bool.false_eq_true, decide_eq_true_eq, ite_true, ite_false, ↓reduceIte, List.length_cons, List.length_nil, true_and, and_true, exists_eq_left', exists_eq_left, List.cons.injEq]
    refine h2 _ _ (seq_ fun N3 h3 => ?_)
    try simp only [tSeq, tIfS, tNext, tRet, tRetN, tDrop, tAsg, tC, cVar, tOp, tCB, tCons, tNil, tTup, tLst, tIf, tAnd, tOr, tNot, cTest, cTru, oTru, cAnd, cOr, cNot, cUn, cChain, gName, cTupG, gCons, gNil, gSub, oLt, oLe, oGt, oGe, oIs, oIsNot, oSub, oMul, oFdiv, oMod, oPow, cPar, cPar3, cAug, tDNewK, cCall, cAttr, frzE, List.mem_singleton, List.lookup_cons_self, List.getElem?_cons_zero, List.getElem?_cons_succ, List.set_cons_zero, List.set_cons_succ, Option.some.injEq, reduceCtorEq, if_true, if_false, Bool.true_eq_false, Bool.false_eq_true, decide_eq_true_eq, ite_true, ite_false, ↓reduceIte, List.length_cons, List.length_nil, true_and, and_true, exists_eq_left', exists_eq_left, List.cons.injEq]
    rw [isi_ty tb kb_tuple_int]
    try simp only [tSeq, tIfS, tNext, tRet, tRetN, tDrop, tAsg, tC, cVar, tOp, tCB, tCons, tNil, tTup, tLst, tIf, tAnd, tOr, tNot, cTest, cTru, oTru, cAnd, cOr, cNot, cUn, cChain, gName, cTupG, gCons, gNil, gSub, oLt, oLe, oGt, oGe, oIs, oIsNot, oSub, oMul, oFdiv, oMod, oPow, cPar, cPar3, cAug, tDNewK, cCall, cAttr, frzE, List.mem_singleton, List.lookup_cons_self, List.getElem?_cons_zero, List.getElem?_cons_succ, List.set_cons_zero, List.set_cons_succ, Option.some.injEq, reduceCtorEq, if_true, if_false, Bool.true_eq_false, Bool.false_eq_true, decide_eq_true_eq, ite_true, ite_false, ↓reduceIte, List.length_cons, List.length_nil, true_and, and_true, exists_eq_left', exists_eq_left, List.cons.injEq]
    refine h3 _ _ (seq_ fun N4 h4 => ?_)
    try simp only [tSeq, tIfS, tNext, tRet, tRetN, tDrop, tAsg, tC, cVar, tOp, tCB, tCons, tNil, tTup, tLst, tIf, tAnd, tOr, tNot, cTest, cTru, oTru, cAnd, cOr, cNot, cUn, cChain, gName, cTupG, gCons, gNil, gSub, oLt, oLe, oGt, oGe, oIs, oIsNot, oSub, oMul, oFdiv, oMod, oPow, cPar, cPar3, cAug, tDNewK, cCall, cAttr, frzE, List.mem_singleton, List.lookup_cons_self, List.getElem?_cons_zero, List.getElem?_cons_succ, List.set_cons_zero, List.set_cons_succ, Option.some.injEq, reduceCtorEq, if_true, if_false, Bool.true_eq_false, Bool.false_eq_true, decide_eq_true_eq, ite_true, ite_false, ↓reduceIte, List.length_cons, List.length_nil, true_and, and_true, exists_eq_left', exists_eq_left, List.cons.injEq]
    rw [isi_ty tb kb_tuple_str]
    try simp only [tSeq, tIfS, tNext, tRet, tRetN, tDrop, tAsg, tC, cVar, tOp, tCB, tCons, tNil, tTup, tLst, tIf, tAnd, tOr, tNot, cTest, cTru, oTru, cAnd, cOr, cNot, cUn, cChain, gName, cTupG, gCons, gNil, gSub, oLt, oLe, oGt, oGe, oIs, oIsNot, oSub, oMul, oFdiv, oMod, oPow, cPar, cPar3, cAug, tDNewK, cCall, cAttr, frzE, List.mem_singleton, List.lookup_cons_self, List.getElem?_cons_zero, List.getElem?_cons_succ, List.set_cons_zero, List.set_cons_succ, Option.some.injEq, reduceCtorEq, if_true, if_false, Bool.true_eq_false, Bool.false_eq_true, decide_eq_true_eq, ite_true, ite_false, ↓reduceIte, List.length_cons, List.length_nil, true_and, and_true, exists_eq_left', exists_eq_left, List.cons.injEq]
    refine h4 _ _ (seq_ fun N5 h5 => ?_)
    try simp only [tSeq, tIfS, tNext, tRet, tRetN, tDrop, tAsg, tC, cVar, tOp, tCB, tCons, tNil, tTup, tLst, tIf, tAnd, tOr, tNot, cTest, cTru, oTru, cAnd, cOr, cNot, cUn, cChain, gName, cTupG, gCons, gNil, gSub, oLt, oLe, oGt, oGe, oIs, oIsNot, oSub, oMul, oFdiv, oMod, oPow, cPar, cPar3, cAug, tDNewK, cCall, cAttr, frzE, List.mem_singleton, List.lookup_cons_self, List.getElem?_cons_zero, List.getElem?_cons_succ, List.set_cons_zero, List.set_cons_succ, Option.some.injEq, reduceCtorEq, if_true, if_false, Bool.true_eq_false, Bool.false_eq_true, decide_eq_true_eq, ite_true, ite_false, ↓reduceIte, List.length_cons, List.length_nil, true_and, and_true, exists_eq_left', exists_eq_left, List.cons.injEq]
    rw [isi_ty tb kb_tuple_dict]
    try simp only [tSeq, tIfS, tNext, tRet, tRetN, tDrop, tAsg, tC, cVar, tOp, tCB, tCons, tNil, tTup, tLst, tIf, tAnd, tOr, tNot, cTest, cTru, oTru, cAnd, cOr, cNot, cUn, cChain, gName, cTupG, gCons, gNil, gSub, oLt, oLe, oGt, oGe, oIs, oIsNot, oSub, oMul, oFdiv, oMod, oPow, cPar, cPar3, cAug, tDNewK, cCall, cAttr, frzE, List.mem_singleton, List.lookup_cons_self, List.getElem?_cons_zero, List.getElem?_cons_succ, List.set_cons_zero, List.set_cons_succ, Option.some.injEq, reduceCtorEq, if_true, if_false, Bool.true_eq_false, Bool.false_eq_true, decide_eq_true_eq, ite_true, ite_false, ↓reduceIte, List.length_cons, List.length_nil, true_and, and_true, exists_eq_left', exists_eq_left, List.cons.injEq]
    refine h5 _ _ (seq_ fun N6 h6 => ?_)
    try simp only [tSeq, tIfS, tNext, tRet, tRetN, tDrop, tAsg, tC, cVar, tOp, tCB, tCons, tNil, tTup, tLst, tIf, tAnd, tOr, tNot, cTest, cTru, oTru, cAnd, cOr, cNot, cUn, cChain, gName, cTupG, gCons, gNil, gSub, oLt, oLe, oGt, oGe, oIs, oIsNot, oSub, oMul, oFdiv, oMod, oPow, cPar, cPar3, cAug, tDNewK, cCall, cAttr, frzE, List.mem_singleton, List.lookup_cons_self, List.getElem?_cons_zero, List.getElem?_cons_succ, List.set_cons_zero, List.set_cons_succ, Option.some.injEq, reduceCtorEq, if_true, if_false, Bool.true_eq_false, Bool.false_eq_true, decide_eq_true_eq, ite_true, ite_false, ↓reduceIte, List.length_cons, List.length_nil, true_and, and_true, exists_eq_left', exists_eq_left, List.cons.injEq]
    rw [isi_ty tb kb_tuple_tuple]
    try simp only [tSeq, tIfS, tNext, tRet, tRetN, tDrop, tAsg, tC, cVar, tOp, tCB, tCons, tNil, tTup, tLst, tIf, tAnd, tOr, tNot, cTest, cTru, oTru, cAnd, cOr, cNot, cUn, cChain, gName, cTupG, gCons, gNil, gSub, oLt, oLe, oGt, oGe, oIs, oIsNot, oSub, oMul, oFdiv, oMod, oPow, cPar, cPar3, cAug, tDNewK, cCall, cAttr, frzE, List.mem_singleton, List.lookup_cons_self, List.getElem?_cons_zero, List.getElem?_cons_succ, List.set_cons_zero, List.set_cons_succ, Option.some.injEq, reduceCtorEq, if_true, if_false, Bool.true_eq_false, Bool.false_eq_true, decide_eq_true_eq, ite_true, ite_false, ↓reduceIte, List.length_cons, List.length_nil, true_and, and_true, exists_eq_left', exists_eq_left, List.cons.injEq]
    rw [isi_ty ta kb_tuple_tuple]
    try simp only [tSeq, tIfS, tNext, tRet, tRetN, tDrop, tAsg, tC, cVar, tOp, tCB, tCons, tNil, tTup, tLst, tIf, tAnd, tOr, tNot, cTest, cTru, oTru, cAnd, cOr, cNot, cUn, cChain, gName, cTupG, gCons, gNil, gSub, oLt, oLe, oGt, oGe, oIs, oIsNot, oSub, oMul, oFdiv, oMod, oPow, cPar, cPar3, cAug, tDNewK, cCall, cAttr, frzE, List.mem_singleton, List.lookup_cons_self, List.getElem?_cons_zero, List.getElem?_cons_succ, List.set_cons_zero, List.set_cons_succ, Option.some.injEq, reduceCtorEq, if_true, if_false, Bool.true_eq_false, Bool.false_eq_true, decide_eq_true_eq, ite_true, ite_false, ↓reduceIte, List.length_cons, List.length_nil, true_and, and_true, exists_eq_left', exists_eq_left, List.cons.injEq]
    refine h6 _ _ (seq_ fun N7 h7 => ?_)
    try simp only [tSeq, tIfS, tNext, tRet, tRetN, tDrop, tAsg, tC, cVar, tOp, tCB, tCons, tNil, tTup, tLst, tIf, tAnd, tOr, tNot, cTest, cTru, oTru, cAnd, cOr, cNot, cUn, cChain, gName, cTupG, gCons, gNil, gSub, oLt, oLe, oGt, oGe, oIs, oIsNot, oSub, oMul, oFdiv, oMod, oPow, cPar, cPar3, cAug, tDNewK, cCall, cAttr, frzE, List.mem_singleton, List.lookup_cons_self, List.getElem?_cons_zero, List.getElem?_cons_succ, List.set_cons_zero, List.set_cons_succ, Option.some.injEq, reduceCtorEq, if_true, if_false, Bool.true_eq_false, Bool.false_eq_true, decide_eq_true_eq, ite_true, ite_false, ↓reduceIte, List.length_cons, List.length_nil, true_and, and_true, exists_eq_left', exists_eq_left, List.cons.injEq]
    rw [len_tup rfl ha]
    try simp only [tSeq, tIfS, tNext, tRet, tRetN, tDrop, tAsg, tC, cVar, tOp, tCB, tCons, tNil, tTup, tLst, tIf, tAnd, tOr, tNot, cTest, cTru, oTru, cAnd, cOr, cNot, cUn, cChain, gName, cTupG, gCons, gNil, gSub, oLt, oLe, oGt, oGe, oIs, oIsNot, oSub, oMul, oFdiv, oMod, oPow, cPar, cPar3, cAug, tDNewK, cCall, cAttr, frzE, List.mem_singleton, List.lookup_cons_self, List.getElem?_cons_zero, List.getElem?_cons_succ, List.set_cons_zero, List.set_cons_succ, Option.some.injEq, reduceCtorEq, if_true, if_false, Bool.true_eq_false, Bool.false_eq_true, decide_eq_true_eq, ite_true, ite_false, ↓reduceIte, List.length_cons, List.length_nil, true_and, and_true, exists_eq_left', exists_eq_left, List.cons.injEq]
    rw [len_tup rfl hb]
    try simp only [tSeq, tIfS, tNext, tRet, tRetN, tDrop, tAsg, tC, cVar, tOp, tCB, tCons, tNil, tTup, tLst, tIf, tAnd, tOr, tNot, cTest, cTru, oTru, cAnd, cOr, cNot, cUn, cChain, gName, cTupG, gCons, gNil, gSub, oLt, oLe, oGt, oGe, oIs, oIsNot, oSub, oMul, oFdiv, oMod, oPow, cPar, cPar3, cAug, tDNewK, cCall, cAttr, frzE, List.mem_singleton, List.lookup_cons_self, List.getElem?_cons_zero, List.getElem?_cons_succ, List.set_cons_zero, List.set_cons_succ, Option.some.injEq, reduceCtorEq, if_true, if_false, Bool.true_eq_false, Bool.false_eq_true, decide_eq_true_eq, ite_true, ite_false, ↓reduceIte, List.length_cons, List.length_nil, true_and, and_true, exists_eq_left', exists_eq_left, List.cons.injEq]
    refine ne_scal rfl rfl rfl ?_
    simp only [hx, hy, decide_true, Bool.not_true, tSeq, tIfS, tNext, tRet, tRetN, tDrop, tAsg, tC, cVar, tOp, tCB, tCons, tNil, tTup, tLst, tIf, tAnd, tOr, tNot, cTest, cTru, oTru, cAnd, cOr, cNot, cUn, cChain, gName, cTupG, gCons, gNil, gSub, oLt, oLe, oGt, oGe, oIs, oIsNot, oSub, oMul, oFdiv, oMod, oPow, cPar, cPar3, cAug, tDNewK, cCall, cAttr, frzE, List.mem_singleton, List.lookup_cons_self, List.getElem?_cons_zero, List.getElem?_cons_succ, List.set_cons_zero, List.set_cons_succ, Option.some.injEq, reduceCtorEq, if_true, if_false, Bool.true_eq_false, Bool.false_eq_true, decide_eq_true_eq, ite_true, ite_false, ↓reduceIte, List.length_cons, List.length_nil, true_and, and_true, exists_eq_left', exists_eq_left, List.cons.injEq]
    refine h7 _ _ ?_
    simp only [tRet, tCB, tCons]
    refine lc_alike (N := N) (xs := xs) (ys := ys) (fun R hR => ?_) hr hN hx hy (fun H1 e i x ex R q => ?_) (fun H1 e i x ex R q => ?_) fun D H1 e eD => ?_
    · simp only [cRng1, tSeq, tIfS, tNext, tRet, tRetN, tDrop, tAsg, tC, cVar, tOp, tCB, tCons, tNil, tTup, tLst, tIf, tAnd, tOr, tNot, cTest, cTru, oTru, cAnd, cOr, cNot, cUn, cChain, gName, cTupG, gCons, gNil, gSub, oLt, oLe, oGt, oGe, oIs, oIsNot, oSub, oMul, oFdiv, oMod, oPow, cPar, cPar3, cAug, tDNewK, cCall, cAttr, frzE, List.mem_singleton, List.lookup_cons_self, List.getElem?_cons_zero, List.getElem?_cons_succ, List.set_cons_zero, List.set_cons_succ, Option.some.injEq, reduceCtorEq, if_true, if_false, Bool.true_eq_false, Bool.false_eq_true, decide_eq_true_eq, ite_true, ite_false, ↓reduceIte, List.length_cons, List.length_nil, true_and, and_true, exists_eq_left', exists_eq_left, List.cons.injEq]
      rw [len_tup rfl hb, hy]
      refine ⟨by omega, ?_⟩
      simpa using hR
    · rw [ix_tup (look_ex e hka ha) (v := x) (by rw [atI_nat]; exact ex)]
      exact q
    · rw [ix_tup (look_ex e hkb hb) (v := x) (by rw [atI_nat]; exact ex)]
      exact q
    · refine ⟨D, List.replicate N true, rfl, look_of_lst eD, ?_⟩
      rw [all_true]
      exact h H1 e
  | false =>
    simp only [Bool.false_eq_true, if_false] at ha hb
    have tb := ty_lst hb
    have ta := ty_lst ha
    try simp only [tSeq, tIfS, tNext, tRet, tRetN, tDrop, tAsg, tC, cVar, tOp, tCB, tCons, tNil, tTup, tLst, tIf, tAnd, tOr, tNot, cTest, cTru, oTru, cAnd, cOr, cNot, cUn, cChain, gName, cTupG, gCons, gNil, gSub, oLt, oLe, oGt, oGe, oIs, oIsNot, oSub, oMul, oFdiv, oMod, oPow, cPar, cPar3, cAug, tDNewK, cCall, cAttr, frzE, List.mem_singleton, List.lookup_cons_self, List.getElem?_cons_zero, List.getElem?_cons_succ, List.set_cons_zero, List.set_cons_succ, Option.some.injEq, reduceCtorEq, if_true, if_false, Bool.true_eq_false, Bool.false_eq_true, decide_eq_true_eq, ite_true, ite_false, ↓reduceIte, List.length_cons, List.length_nil, true_and, and_true, exists_eq_left', exists_eq_left, List.cons.injEq]
    rw [isi_ty tb kb_list_bool]
    try simp only [tSeq, tIfS, tNext, tRet, tRetN, tDrop, tAsg, tC, cVar, tOp, tCB, tCons, tNil, tTup, tLst, tIf, tAnd, tOr, tNot, cTest, cTru, oTru, cAnd, cOr, cNot, cUn, cChain, gName, cTupG, gCons, gNil, gSub, oLt, oLe, oGt, oGe, oIs, oIsNot, oSub, oMul, oFdiv, oMod, oPow, cPar, cPar3, cAug, tDNewK, cCall, cAttr, frzE, List.mem_singleton, List.lookup_cons_self, List.getElem?_cons_zero, List.getElem?_cons_succ, List.set_cons_zero, List.set_cons_succ, Option.some.injEq, reduceCtorEq, if_true, if_false, Bool.true_eq_false, Bool.false_eq_true, decide_eq_true_eq, ite_true, ite_false, ↓reduceIte, List.length_cons, List.length_nil, true_and, and_true, exists_eq_left', exists_eq_left, List.cons.injEq]
    refine h2 _ _ (seq_ fun N3 h3 => ?_)
    try simp only [tSeq, tIfS, tNext, tRet, tRetN, tDrop, tAsg, tC, cVar, tOp, tCB, tCons, tNil, tTup, tLst, tIf, tAnd, tOr, tNot, cTest, cTru, oTru, cAnd, cOr, cNot, cUn, cChain, gName, cTupG, gCons, gNil, gSub, oLt, oLe, oGt, oGe, oIs, oIsNot, oSub, oMul, oFdiv, oMod, oPow, cPar, cPar3, cAug, tDNewK, cCall, cAttr, frzE, List.mem_singleton, List.lookup_cons_self, List.getElem?_cons_zero, List.getElem?_cons_succ, List.set_cons_zero, List.set_cons_succ, Option.some.injEq, reduceCtorEq, if_true, if_false, Bool.true_eq_false, Bool.false_eq_true, decide_eq_true_eq, ite_true, ite_false, ↓reduceIte, List.length_cons, List.length_nil, true_and, and_true, exists_eq_left', exists_eq_left, List.cons.injEq]
    rw [isi_ty tb kb_list_int]
    try simp only [tSeq, tIfS, tNext, tRet, tRetN, tDrop, tAsg, tC, cVar, tOp, tCB, tCons, tNil, tTup, tLst, tIf, tAnd, tOr, tNot, cTest, cTru, oTru, cAnd, cOr, cNot, cUn, cChain, gName, cTupG, gCons, gNil, gSub, oLt, oLe, oGt, oGe, oIs, oIsNot, oSub, oMul, oFdiv, oMod, oPow, cPar, cPar3, cAug, tDNewK, cCall, cAttr, frzE, List.mem_singleton, List.lookup_cons_self, List.getElem?_cons_zero, List.getElem?_cons_succ, List.set_cons_zero, List.set_cons_succ, Option.some.injEq, reduceCtorEq, if_true, if_false, Bool.true_eq_false, Bool.false_eq_true, decide_eq_true_eq, ite_true, ite_false, ↓reduceIte, List.length_cons, List.length_nil, true_and, and_true, exists_eq_left', exists_eq_left, List.cons.injEq]
    refine h3 _ _ (seq_ fun N4 h4 => ?_)
    try simp only [tSeq, tIfS, tNext, tRet, tRetN, tDrop, tAsg, tC, cVar, tOp, tCB, tCons, tNil, tTup, tLst, tIf, tAnd, tOr, tNot, cTest, cTru, oTru, cAnd, cOr, cNot, cUn, cChain, gName, cTupG, gCons, gNil, gSub, oLt, oLe, oGt, oGe, oIs, oIsNot, oSub, oMul, oFdiv, oMod, oPow, cPar, cPar3, cAug, tDNewK, cCall, cAttr, frzE, List.mem_singleton, List.lookup_cons_self, List.getElem?_cons_zero, List.getElem?_cons_succ, List.set_cons_zero, List.set_cons_succ, Option.some.injEq, reduceCtorEq, if_true, if_false, Bool.true_eq_false, Bool.false_eq_true, decide_eq_true_eq, ite_true, ite_false, ↓reduceIte, List.length_cons, List.length_nil, true_and, and_true, exists_eq_left', exists_eq_left, List.cons.injEq]
    rw [isi_ty tb kb_list_str]
    try simp only [tSeq, tIfS, tNext, tRet, tRetN, tDrop, tAsg, tC, cVar, tOp, tCB, tCons, tNil, tTup, tLst, tIf, tAnd, tOr, tNot, cTest, cTru, oTru, cAnd, cOr, cNot, cUn, cChain, gName, cTupG, gCons, gNil, gSub, oLt, oLe, oGt, oGe, oIs, oIsNot, oSub, oMul, oFdiv, oMod, oPow, cPar, cPar3, cAug, tDNewK, cCall, cAttr, frzE, List.mem_singleton, List.lookup_cons_self, List.getElem?_cons_zero, List.getElem?_cons_succ, List.set_cons_zero, List.set_cons_succ, Option.some.injEq, reduceCtorEq, if_true, if_false, Bool.true_eq_false, Bool.false_eq_true, decide_eq_true_eq, ite_true, ite_false, ↓reduceIte, List.length_cons, List.length_nil, true_and, and_true, exists_eq_left', exists_eq_left, List.cons.injEq]
    refine h4 _ _ (seq_ fun N5 h5 => ?_)
    try simp only [tSeq, tIfS, tNext, tRet, tRetN, tDrop, tAsg, tC, cVar, tOp, tCB, tCons, tNil, tTup, tLst, tIf, tAnd, tOr, tNot, cTest, cTru, oTru, cAnd, cOr, cNot, cUn, cChain, gName, cTupG, gCons, gNil, gSub, oLt, oLe, oGt, oGe, oIs, oIsNot, oSub, oMul, oFdiv, oMod, oPow, cPar, cPar3, cAug, tDNewK, cCall, cAttr, frzE, List.mem_singleton, List.lookup_cons_self, List.getElem?_cons_zero, List.getElem?_cons_succ, List.set_cons_zero, List.set_cons_succ, Option.some.injEq, reduceCtorEq, if_true, if_false, Bool.true_eq_false, Bool.false_eq_true, decide_eq_true_eq, ite_true, ite_false, ↓reduceIte, List.length_cons, List.length_nil, true_and, and_true, exists_eq_left', exists_eq_left, List.cons.injEq]
    rw [isi_ty tb kb_list_dict]
    try simp only [tSeq, tIfS, tNext, tRet, tRetN, tDrop, tAsg, tC, cVar, tOp, tCB, tCons, tNil, tTup, tLst, tIf, tAnd, tOr, tNot, cTest, cTru, oTru, cAnd, cOr, cNot, cUn, cChain, gName, cTupG, gCons, gNil, gSub, oLt, oLe, oGt, oGe, oIs, oIsNot, oSub, oMul, oFdiv, oMod, oPow, cPar, cPar3, cAug, tDNewK, cCall, cAttr, frzE, List.mem_singleton, List.lookup_cons_self, List.getElem?_cons_zero, List.getElem?_cons_succ, List.set_cons_zero, List.set_cons_succ, Option.some.injEq, reduceCtorEq, if_true, if_false, Bool.true_eq_false, Bool.false_eq_true, decide_eq_true_eq, ite_true, ite_false, ↓reduceIte, List.length_cons, List.length_nil, true_and, and_true, exists_eq_left', exists_eq_left, List.cons.injEq]
    refine h5 _ _ (seq_ fun N6 h6 => ?_)
    try simp only [tSeq, tIfS, tNext, tRet, tRetN, tDrop, tAsg, tC, cVar, tOp, tCB, tCons, tNil, tTup, tLst, tIf, tAnd, tOr, tNot, cTest, cTru, oTru, cAnd, cOr, cNot, cUn, cChain, gName, cTupG, gCons, gNil, gSub, oLt, oLe, oGt, oGe, oIs, oIsNot, oSub, oMul, oFdiv, oMod, oPow, cPar, cPar3, cAug, tDNewK, cCall, cAttr, frzE, List.mem_singleton, List.lookup_cons_self, List.getElem?_cons_zero, List.getElem?_cons_succ, List.set_cons_zero, List.set_cons_succ, Option.some.injEq, reduceCtorEq, if_true, if_false, Bool.true_eq_false, Bool.false_eq_true, decide_eq_true_eq, ite_true, ite_false, ↓reduceIte, List.length_cons, List.length_nil, true_and, and_true, exists_eq_left', exists_eq_left, List.cons.injEq]
    rw [isi_ty tb kb_list_tuple]
    try simp only [tSeq, tIfS, tNext, tRet, tRetN, tDrop, tAsg, tC, cVar, tOp, tCB, tCons, tNil, tTup, tLst, tIf, tAnd, tOr, tNot, cTest, cTru, oTru, cAnd, cOr, cNot, cUn, cChain, gName, cTupG, gCons, gNil, gSub, oLt, oLe, oGt, oGe, oIs, oIsNot, oSub, oMul, oFdiv, oMod, oPow, cPar, cPar3, cAug, tDNewK, cCall, cAttr, frzE, List.mem_singleton, List.lookup_cons_self, List.getElem?_cons_zero, List.getElem?_cons_succ, List.set_cons_zero, List.set_cons_succ, Option.some.injEq, reduceCtorEq, if_true, if_false, Bool.true_eq_false, Bool.false_eq_true, decide_eq_true_eq, ite_true, ite_false, ↓reduceIte, List.length_cons, List.length_nil, true_and, and_true, exists_eq_left', exists_eq_left, List.cons.injEq]
    rw [isi_ty ta kb_list_list]
    try simp only [tSeq, tIfS, tNext, tRet, tRetN, tDrop, tAsg, tC, cVar, tOp, tCB, tCons, tNil, tTup, tLst, tIf, tAnd, tOr, tNot, cTest, cTru, oTru, cAnd, cOr, cNot, cUn, cChain, gName, cTupG, gCons, gNil, gSub, oLt, oLe, oGt, oGe, oIs, oIsNot, oSub, oMul, oFdiv, oMod, oPow, cPar, cPar3, cAug, tDNewK, cCall, cAttr, frzE, List.mem_singleton, List.lookup_cons_self, List.getElem?_cons_zero, List.getElem?_cons_succ, List.set_cons_zero, List.set_cons_succ, Option.some.injEq, reduceCtorEq, if_true, if_false, Bool.true_eq_false, Bool.false_eq_true, decide_eq_true_eq, ite_true, ite_false, ↓reduceIte, List.length_cons, List.length_nil, true_and, and_true, exists_eq_left', exists_eq_left, List.cons.injEq]
    refine h6 _ _ (seq_ fun N7 h7 => ?_)
    try simp only [tSeq, tIfS, tNext, tRet, tRetN, tDrop, tAsg, tC, cVar, tOp, tCB, tCons, tNil, tTup, tLst, tIf, tAnd, tOr, tNot, cTest, cTru, oTru, cAnd, cOr, cNot, cUn, cChain, gName, cTupG, gCons, gNil, gSub, oLt, oLe, oGt, oGe, oIs, oIsNot, oSub, oMul, oFdiv, oMod, oPow, cPar, cPar3, cAug, tDNewK, cCall, cAttr, frzE, List.mem_singleton, List.lookup_cons_self, List.getElem?_cons_zero, List.getElem?_cons_succ, List.set_cons_zero, List.set_cons_succ, Option.some.injEq, reduceCtorEq, if_true, if_false, Bool.true_eq_false, Bool.false_eq_true, decide_eq_true_eq, ite_true, ite_false, ↓reduceIte, List.length_cons, List.length_nil, true_and, and_true, exists_eq_left', exists_eq_left, List.cons.injEq]
    rw [len_lst rfl ha]
    try simp only [tSeq, tIfS, tNext, tRet, tRetN, tDrop, tAsg, tC, cVar, tOp, tCB, tCons, tNil, tTup, tLst, tIf, tAnd, tOr, tNot, cTest, cTru, oTru, cAnd, cOr, cNot, cUn, cChain, gName, cTupG, gCons, gNil, gSub, oLt, oLe, oGt, oGe, oIs, oIsNot, oSub, oMul, oFdiv, oMod, oPow, cPar, cPar3, cAug, tDNewK, cCall, cAttr, frzE, List.mem_singleton, List.lookup_cons_self, List.getElem?_cons_zero, List.getElem?_cons_succ, List.set_cons_zero, List.set_cons_succ, Option.some.injEq, reduceCtorEq, if_true, if_false, Bool.true_eq_false, Bool.false_eq_true, decide_eq_true_eq, ite_true, ite_false, ↓reduceIte, List.length_cons, List.length_nil, true_and, and_true, exists_eq_left', exists_eq_left, List.cons.injEq]
    rw [len_lst rfl hb]
    try simp only [tSeq, tIfS, tNext, tRet, tRetN, tDrop, tAsg, tC, cVar, tOp, tCB, tCons, tNil, tTup, tLst, tIf, tAnd, tOr, tNot, cTest, cTru, oTru, cAnd, cOr, cNot, cUn, cChain, gName, cTupG, gCons, gNil, gSub, oLt, oLe, oGt, oGe, oIs, oIsNot, oSub, oMul, oFdiv, oMod, oPow, cPar, cPar3, cAug, tDNewK, cCall, cAttr, frzE, List.mem_singleton, List.lookup_cons_self, List.getElem?_cons_zero, List.getElem?_cons_succ, List.set_cons_zero, List.set_cons_succ, Option.some.injEq, reduceCtorEq, if_true, if_false, Bool.true_eq_false, Bool.false_eq_true, decide_eq_true_eq, ite_true, ite_false, ↓reduceIte, List.length_cons, List.length_nil, true_and, and_true, exists_eq_left', exists_eq_left, List.cons.injEq]
    refine ne_scal rfl rfl rfl ?_
    simp only [hx, hy, decide_true, Bool.not_true, tSeq, tIfS, tNext, tRet, tRetN, tDrop, tAsg, tC, cVar, tOp, tCB, tCons, tNil, tTup, tLst, tIf, tAnd, tOr, tNot, cTest, cTru, oTru, cAnd, cOr, cNot, cUn, cChain, gName, cTupG, gCons, gNil, gSub, oLt, oLe, oGt, oGe, oIs, oIsNot, oSub, oMul, oFdiv, oMod, oPow, cPar, cPar3, cAug, tDNewK, cCall, cAttr, frzE, List.mem_singleton, List.lookup_cons_self, List.getElem?_cons_zero, List.getElem?_cons_succ, List.set_cons_zero, List.set_cons_succ, Option.some.injEq, reduceCtorEq, if_true, if_false, Bool.true_eq_false, Bool.false_eq_true, decide_eq_true_eq, ite_true, ite_false, ↓reduceIte, List.length_cons, List.length_nil, true_and, and_true, exists_eq_left', exists_eq_left, List.cons.injEq]
    refine h7 _ _ ?_
    simp only [tRet, tCB, tCons]
    refine lc_alike (N := N) (xs := xs) (ys := ys) (fun R hR => ?_) hr hN hx hy (fun H1 e i x ex R q => ?_) (fun H1 e i x ex R q => ?_) fun D H1 e eD => ?_
    · simp only [cRng1, tSeq, tIfS, tNext, tRet, tRetN, tDrop, tAsg, tC, cVar, tOp, tCB, tCons, tNil, tTup, tLst, tIf, tAnd, tOr, tNot, cTest, cTru, oTru, cAnd, cOr, cNot, cUn, cChain, gName, cTupG, gCons, gNil, gSub, oLt, oLe, oGt, oGe, oIs, oIsNot, oSub, oMul, oFdiv, oMod, oPow, cPar, cPar3, cAug, tDNewK, cCall, cAttr, frzE, List.mem_singleton, List.lookup_cons_self, List.getElem?_cons_zero, List.getElem?_cons_succ, List.set_cons_zero, List.set_cons_succ, Option.some.injEq, reduceCtorEq, if_true, if_false, Bool.true_eq_false, Bool.false_eq_true, decide_eq_true_eq, ite_true, ite_false, ↓reduceIte, List.length_cons, List.length_nil, true_and, and_true, exists_eq_left', exists_eq_left, List.cons.injEq]
      rw [len_lst rfl hb, hy]
      refine ⟨by omega, ?_⟩
      simpa using hR
    · rw [ix_lst (look_ex e hka ha) (v := x) (by rw [atI_nat]; exact ex)]
      exact q
    · rw [ix_lst (look_ex e hkb hb) (v := x) (by rw [atI_nat]; exact ex)]
      exact q
    · refine ⟨D, List.replicate N true, rfl, look_of_lst eD, ?_⟩
      rw [all_true]
      exact h H1 e
end
end WR.L

set_option Elab.async false
set_option linter.all false
set_option maxRecDepth 100000
set_option maxHeartbeats 1000000
namespace WR.L
open PySem PySem.Spec PyProof.Rows L2
section
variable {K : PySem.W.Frag} {n : Nat} {H : Hp} {Q : VK} {E : XK}
theorem lets_ok : lets.all (fun c => decide (c < 1114112)) = true := by decide +kernel
/-- a text that data may hold -/
def okS (s : Str) : Prop := (PyData.str s).canLay0 = true
theorem nm_ok {s : Str} (h : isNm s = true) : okS s := by
  unfold isNm at h
  simp only [Bool.and_eq_true, decide_eq_true_eq, List.all_eq_true] at h
  show s.cps.all (· < 0x110000) = true
  rw [← Array.all_toList, List.all_eq_true]
  intro c hc
  exact List.all_eq_true.mp lets_ok c (h.2.2 c hc)
theorem dpStrs : ∀ ss : List Str, DpAll K H (ss.map V.str) (ss.map PyData.str)
  | [] => .nil
  | s :: r => .cons (.str s) (dpStrs r)
theorem lay_strs : ∀ {ss : List Str}, (∀ s ∈ ss, okS s) → PyData.canLayAll0 (ss.map PyData.str) = true ∧ PyData.depthAll (ss.map PyData.str) ≤ 1
  | [], h => ⟨rfl, Nat.zero_le _⟩
  | s :: r, h => by
    obtain ⟨h1, h2⟩ := lay_strs (ss := r) fun x hx => h x (List.mem_cons_of_mem _ hx)
    refine ⟨?_, ?_⟩
    · simp only [List.map_cons, PyData.canLayAll0, h1, Bool.and_true]
      exact h s (List.mem_cons_self ..)
    · simp only [List.map_cons, PyData.depthAll]
      exact Nat.max_le.mpr ⟨by simp [PyData.depth], h2⟩
theorem shaped_strs {ss : List Str} (h : ∀ s ∈ ss, okS s) : SeqAt.shaped (.list (ss.map PyData.str)) = true := by
  obtain ⟨h1, h2⟩ := lay_strs h
  unfold SeqAt.shaped
  simp only [PyData.canLay0, PyData.depth, h1, Bool.true_and, decide_eq_true_eq]
  exact decide_eq_true (Nat.succ_le_of_lt (Nat.lt_of_le_of_lt h2 (by decide : 1 < 64)))
theorem eqv_strs {ss : List Str} (h : ∀ s ∈ ss, okS s) : PyData.eqv (.list (ss.map PyData.str)) (.list (ss.map PyData.str)) = true := by
  refine SeqAt.eqv_refl _ ?_
  simp only [PyData.canLay0]
  exact (lay_strs h).1
theorem kvs_strs {kvs : List (Key × V)} {rs : Rws} (r : RR H kvs rs) : (kvs.map fun kv => kV kv.1) = (rs.map (·.1)).map V.str := by
  have := keysS_ok r.keys
  have e : (kvs.map fun kv => kV kv.1) = (kvs.map (·.1)).map kV := by rw [List.map_map]; rfl
  rw [e, this, List.map_map]
  rfl
theorem ne_lst_same {a b : Addr} {ss : List Str} {S : Str → Sp} (ha : H a = some (.lst (ss.map V.str))) (hb : H b = some (.lst (ss.map V.str))) (h : ∀ s ∈ ss, okS s) (q : Q (.bl false) H) : oNeG (gg K S) (.ref a) (.ref b) H Q := by
  unfold oNeG
  rw [ins_lst (look_of_lst (K := K) ha)]
  refine .inl (.inr ⟨_, _, .lst (.inl (.inl ha)) (dpStrs ss), .lst (.inl (.inl hb)) (dpStrs ss), shaped_strs h, shaped_strs h, ?_⟩)
  rw [eqv_strs h]
  exact q
theorem s_alike_dict {a b : Addr} {rs : Rws} (ha : RAt H a rs) (hb : RAt H b rs) (hab : a ≠ b) (hl : rs.length ≤ 900) (nd : (rs.map (·.1)).Nodup) (hok : ∀ s ∈ rs.map (·.1), okS s) (h : ∀ H', Ex H H' → Q (.bl true) H') : SP K (n+3) "_law_alike" [.ref a, .ref b] H Q E := by
  obtain ⟨ka, ea, ra⟩ := ha
  obtain ⟨kb, eb, rb⟩ := hb
  refine o__law_alike ?_
  unfold r__law_alike
  refine seq_ fun N1 h1 => ?_
  try simp only [tSeq, tIfS, tNext, tRet, tRetN, tDrop, tAsg, tC, cVar, tOp, tCB, tCons, tNil, tTup, tLst, tIf, tAnd, tOr, tNot, cTest, cTru, oTru, cAnd, cOr, cNot, cUn, cChain, gName, cTupG, gCons, gNil, gSub, oLt, oLe, oGt, oGe, oIs, oIsNot, oSub, oMul, oFdiv, oMod, oPow, cPar, cPar3, cAug, tDNewK, cCall, cAttr, frzE, List.mem_singleton, List.lookup_cons_self, List.getElem?_cons_zero, List.getElem?_cons_succ, List.set_cons_zero, List.set_cons_succ, Option.some.injEq, reduceCtorEq, if_true, if_false, Bool.true_eq_false, Bool.false_eq_true, decide_eq_true_eq, ite_true, ite_false, ↓reduceIte, List.length_cons, List.length_nil, true_and, and_true, exists_eq_left', exists_eq_left, List.cons.injEq]
  refine h1 _ _ (seq_ fun N2 h2 => ?_)
  have tb := ty_dK (K := K) (look_of_dK eb)
  have ta := ty_dK (K := K) (look_of_dK ea)
  try simp only [tSeq, tIfS, tNext, tRet, tRetN, tDrop, tAsg, tC, cVar, tOp, tCB, tCons, tNil, tTup, tLst, tIf, tAnd, tOr, tNot, cTest, cTru, oTru, cAnd, cOr, cNot, cUn, cChain, gName, cTupG, gCons, gNil, gSub, oLt, oLe, oGt, oGe, oIs, oIsNot, oSub, oMul, oFdiv, oMod, oPow, cPar, cPar3, cAug, tDNewK, cCall, cAttr, frzE, List.mem_singleton, List.lookup_cons_self, List.getElem?_cons_zero, List.getElem?_cons_succ, List.set_cons_zero, List.set_cons_succ, Option.some.injEq, reduceCtorEq, if_true, if_false, Bool.true_eq_false, Bool.false_eq_true, decide_eq_true_eq, ite_true, ite_false, ↓reduceIte, List.length_cons, List.length_nil, true_and, and_true, exists_eq_left', exists_eq_left, List.cons.injEq]
  rw [isi_ty tb kb_dict_bool]
  try simp only [tSeq, tIfS, tNext, tRet, tRetN, tDrop, tAsg, tC, cVar, tOp, tCB, tCons, tNil, tTup, tLst, tIf, tAnd, tOr, tNot, cTest, cTru, oTru, cAnd, cOr, cNot, cUn, cChain, gName, cTupG, gCons, gNil, gSub, oLt, oLe, oGt, oGe, oIs, oIsNot, oSub, oMul, oFdiv, oMod, oPow, cPar, cPar3, cAug, tDNewK, cCall, cAttr, frzE, List.mem_singleton, List.lookup_cons_self, List.getElem?_cons_zero, List.getElem?_cons_succ, List.set_cons_zero, List.set_cons_succ, Option.some.injEq, reduceCtorEq, if_true, if_false, Bool.true_eq_false, Bool.false_eq_true, decide_eq_true_eq, ite_true, ite_false, ↓reduceIte, List.length_cons, List.length_nil, true_and, and_true, exists_eq_left', exists_eq_left, List.cons.injEq]
  refine h2 _ _ (seq_ fun N3 h3 => ?_)
  try simp only [tSeq, tIfS, tNext, tRet, tRetN, tDrop, tAsg, tC, cVar, tOp, tCB, tCons, tNil, tTup, tLst, tIf, tAnd, tOr, tNot, cTest, cTru, oTru, cAnd, cOr, cNot, cUn, cChain, gName, cTupG, gCons, gNil, gSub, oLt, oLe, oGt, oGe, oIs, oIsNot, oSub, oMul, oFdiv, oMod, oPow, cPar, cPar3, cAug, tDNewK, cCall, cAttr, frzE, List.mem_singleton, List.lookup_cons_self, List.getElem?_cons_zero, List.getElem?_cons_succ, List.set_cons_zero, List.set_cons_succ, Option.some.injEq, reduceCtorEq, if_true, if_false, Bool.true_eq_false, Bool.false_eq_true, decide_eq_true_eq, ite_true, ite_false, ↓reduceIte, List.length_cons, List.length_nil, true_and, and_true, exists_eq_left', exists_eq_left, List.cons.injEq]
  rw [isi_ty tb kb_dict_int]
  try simp only [tSeq, tIfS, tNext, tRet, tRetN, tDrop, tAsg, tC, cVar, tOp, tCB, tCons, tNil, tTup, tLst, tIf, tAnd, tOr, tNot, cTest, cTru, oTru, cAnd, cOr, cNot, cUn, cChain, gName, cTupG, gCons, gNil, gSub, oLt, oLe, oGt, oGe, oIs, oIsNot, oSub, oMul, oFdiv, oMod, oPow, cPar, cPar3, cAug, tDNewK, cCall, cAttr, frzE, List.mem_singleton, List.lookup_cons_self, List.getElem?_cons_zero, List.getElem?_cons_succ, List.set_cons_zero, List.set_cons_succ, Option.some.injEq, reduceCtorEq, if_true, if_false, Bool.true_eq_false, Bool.false_eq_true, decide_eq_true_eq, ite_true, ite_false, ↓reduceIte, List.length_cons, List.length_nil, true_and, and_true, exists_eq_left', exists_eq_left, List.cons.injEq]
  refine h3 _ _ (seq_ fun N4 h4 => ?_)
  try simp only [tSeq, tIfS, tNext, tRet, tRetN, tDrop, tAsg, tC, cVar, tOp, tCB, tCons, tNil, tTup, tLst, tIf, tAnd, tOr, tNot, cTest, cTru, oTru, cAnd, cOr, cNot, cUn, cChain, gName, cTupG, gCons, gNil, gSub, oLt, oLe, oGt, oGe, oIs, oIsNot, oSub, oMul, oFdiv, oMod, oPow, cPar, cPar3, cAug, tDNewK, cCall, cAttr, frzE, List.mem_singleton, List.lookup_cons_self, List.getElem?_cons_zero, List.getElem?_cons_succ, List.set_cons_zero, List.set_cons_succ, Option.some.injEq, reduceCtorEq, if_true, if_false, Bool.true_eq_false, Bool.false_eq_true, decide_eq_true_eq, ite_true, ite_false, ↓reduceIte, List.length_cons, List.length_nil, true_and, and_true, exists_eq_left', exists_eq_left, List.cons.injEq]
  rw [isi_ty tb kb_dict_str]
  try simp only [tSeq, tIfS, tNext, tRet, tRetN, tDrop, tAsg, tC, cVar, tOp, tCB, tCons, tNil, tTup, tLst, tIf, tAnd, tOr, tNot, cTest, cTru, oTru, cAnd, cOr, cNot, cUn, cChain, gName, cTupG, gCons, gNil, gSub, oLt, oLe, oGt, oGe, oIs, oIsNot, oSub, oMul, oFdiv, oMod, oPow, cPar, cPar3, cAug, tDNewK, cCall, cAttr, frzE, List.mem_singleton, List.lookup_cons_self, List.getElem?_cons_zero, List.getElem?_cons_succ, List.set_cons_zero, List.set_cons_succ, Option.some.injEq, reduceCtorEq, if_true, if_false, Bool.true_eq_false, Bool.false_eq_true, decide_eq_true_eq, ite_true, ite_false, ↓reduceIte, List.length_cons, List.length_nil, true_and, and_true, exists_eq_left', exists_eq_left, List.cons.injEq]
  refine h4 _ _ (seq_ fun N5 h5 => ?_)
  try simp only [tSeq, tIfS, tNext, tRet, tRetN, tDrop, tAsg, tC, cVar, tOp, tCB, tCons, tNil, tTup, tLst, tIf, tAnd, tOr, tNot, cTest, cTru, oTru, cAnd, cOr, cNot, cUn, cChain, gName, cTupG, gCons, gNil, gSub, oLt, oLe, oGt, oGe, oIs, oIsNot, oSub, oMul, oFdiv, oMod, oPow, cPar, cPar3, cAug, tDNewK, cCall, cAttr, frzE, List.mem_singleton, List.lookup_cons_self, List.getElem?_cons_zero, List.getElem?_cons_succ, List.set_cons_zero, List.set_cons_succ, Option.some.injEq, reduceCtorEq, if_true, if_false, Bool.true_eq_false, Bool.false_eq_true, decide_eq_true_eq, ite_true, ite_false, ↓reduceIte, List.length_cons, List.length_nil, true_and, and_true, exists_eq_left', exists_eq_left, List.cons.injEq]
  rw [isi_ty tb kb_dict_dict]
  try simp only [tSeq, tIfS, tNext, tRet, tRetN, tDrop, tAsg, tC, cVar, tOp, tCB, tCons, tNil, tTup, tLst, tIf, tAnd, tOr, tNot, cTest, cTru, oTru, cAnd, cOr, cNot, cUn, cChain, gName, cTupG, gCons, gNil, gSub, oLt, oLe, oGt, oGe, oIs, oIsNot, oSub, oMul, oFdiv, oMod, oPow, cPar, cPar3, cAug, tDNewK, cCall, cAttr, frzE, List.mem_singleton, List.lookup_cons_self, List.getElem?_cons_zero, List.getElem?_cons_succ, List.set_cons_zero, List.set_cons_succ, Option.some.injEq, reduceCtorEq, if_true, if_false, Bool.true_eq_false, Bool.false_eq_true, decide_eq_true_eq, ite_true, ite_false, ↓reduceIte, List.length_cons, List.length_nil, true_and, and_true, exists_eq_left', exists_eq_left, List.cons.injEq]
  rw [isi_ty ta kb_dict_dict]
  simp only [bList, Bool.not_true, look_of_dK ea, tSeq, tIfS, tNext, tRet, tRetN, tDrop, tAsg, tC, cVar, tOp, tCB, tCons, tNil, tTup, tLst, tIf, tAnd, tOr, tNot, cTest, cTru, oTru, cAnd, cOr, cNot, cUn, cChain, gName, cTupG, gCons, gNil, gSub, oLt, oLe, oGt, oGe, oIs, oIsNot, oSub, oMul, oFdiv, oMod, oPow, cPar, cPar3, cAug, tDNewK, cCall, cAttr, frzE, List.mem_singleton, List.lookup_cons_self, List.getElem?_cons_zero, List.getElem?_cons_succ, List.set_cons_zero, List.set_cons_succ, Option.some.injEq, reduceCtorEq, if_true, if_false, Bool.true_eq_false, Bool.false_eq_true, decide_eq_true_eq, ite_true, ite_false, ↓reduceIte, List.length_cons, List.length_nil, true_and, and_true, exists_eq_left', exists_eq_left, List.cons.injEq]
  intro l1 hl1
  have nbl : b ≠ l1 := ne_of_none eb hl1
  have nal : a ≠ l1 := ne_of_none ea hl1
  have eb1 : look K (upd H l1 (.lst (ka.map fun kv => kV kv.1))) b = some (.dK kb) := look_of_dK (by rw [upd_ne nbl]; exact eb)
  simp only [eb1]
  intro l2 hl2
  have n12 : l1 ≠ l2 := fun z => by rw [z, upd_same] at hl2; cases hl2
  have hl2H : H l2 = none := (Ex.refl.new hl1).none hl2
  refine ne_lst_same (ss := rs.map (·.1)) (by rw [upd_ne n12, upd_same, kvs_strs ra]) (by rw [upd_same, kvs_strs rb]) hok ?_
  try simp only [tSeq, tIfS, tNext, tRet, tRetN, tDrop, tAsg, tC, cVar, tOp, tCB, tCons, tNil, tTup, tLst, tIf, tAnd, tOr, tNot, cTest, cTru, oTru, cAnd, cOr, cNot, cUn, cChain, gName, cTupG, gCons, gNil, gSub, oLt, oLe, oGt, oGe, oIs, oIsNot, oSub, oMul, oFdiv, oMod, oPow, cPar, cPar3, cAug, tDNewK, cCall, cAttr, frzE, List.mem_singleton, List.lookup_cons_self, List.getElem?_cons_zero, List.getElem?_cons_succ, List.set_cons_zero, List.set_cons_succ, Option.some.injEq, reduceCtorEq, if_true, if_false, Bool.true_eq_false, Bool.false_eq_true, decide_eq_true_eq, ite_true, ite_false, ↓reduceIte, List.length_cons, List.length_nil, true_and, and_true, exists_eq_left', exists_eq_left, List.cons.injEq]
  have x2 : Ex H (upd (upd H l1 (.lst (ka.map fun kv => kV kv.1))) l2 (.lst (kb.map fun kv => kV kv.1))) := (Ex.refl.new hl1).new hl2H
  generalize hH2 : upd (upd H l1 (.lst (ka.map fun kv => kV kv.1))) l2 (.lst (kb.map fun kv => kV kv.1)) = H2 at x2 ⊢
  have ea2 := x2 _ _ ea
  have eb2 := x2 _ _ eb
  refine .inr ⟨b, .dK kb, eb2, trivial, fun od => ?_⟩
  have ea3 : (upd H2 b (.frz od (.dK kb))) a = some (.dK ka) := by rw [upd_ne hab]; exact ea2
  simp only [cLc, cIter, frzE, upd_same, tSeq, tIfS, tNext, tRet, tRetN, tDrop, tAsg, tC, cVar, tOp, tCB, tCons, tNil, tTup, tLst, tIf, tAnd, tOr, tNot, cTest, cTru, oTru, cAnd, cOr, cNot, cUn, cChain, gName, cTupG, gCons, gNil, gSub, oLt, oLe, oGt, oGe, oIs, oIsNot, oSub, oMul, oFdiv, oMod, oPow, cPar, cPar3, cAug, tDNewK, cCall, cAttr, frzE, List.mem_singleton, List.lookup_cons_self, List.getElem?_cons_zero, List.getElem?_cons_succ, List.set_cons_zero, List.set_cons_succ, Option.some.injEq, reduceCtorEq, if_true, if_false, Bool.true_eq_false, Bool.false_eq_true, decide_eq_true_eq, ite_true, ite_false, ↓reduceIte, List.length_cons, List.length_nil, true_and, and_true, exists_eq_left', exists_eq_left, List.cons.injEq]
  have lk : look K (upd H2 b (.frz od (.dK kb))) b = some (.dK kb) := by unfold look; rw [upd_same]
  simp only [lk, upd_same]
  intro D hD
  have nDb : b ≠ D := fun z => by rw [← z, upd_same] at hD; cases hD
  have hDH2 : H2 D = none := by rw [upd_ne nDb.symm] at hD; exact hD
  have rb3 : RR (upd H2 b (.frz od (.dK kb))) kb rs := rb.tp fun t xs e => by
    have : t ≠ b := fun z => by rw [z, eb] at e; cases e
    rw [upd_ne this]; exact x2 _ _ e
  have ra3 : RR (upd H2 b (.frz od (.dK kb))) ka rs := ra.tp fun t xs e => by
    have : t ≠ b := fun z => by rw [z, eb] at e; cases e
    rw [upd_ne this]; exact x2 _ _ e
  refine lpc_inv (n := rs.length) (fun j H' => Ex (upd H2 b (.frz od (.dK kb))) H' ∧ H' D = some (.lst ((List.replicate j true).map V.bl))) ?_ ?_ ⟨Ex.refl.new hD, by rw [upd_same]; rfl⟩
  · rintro H' ⟨e1, e2⟩
    have eb4 := e1 b _ upd_same
    refine ⟨⟨eb4, by rw [rb.len]; exact Nat.le_refl _⟩, eb4, ?_⟩
    refine ⟨D, List.replicate rs.length true, rfl, look_of_lst (by rw [upd_ne nDb.symm]; exact e2), ?_⟩
    rw [all_true]
    refine h _ fun c o ec => ?_
    by_cases hc : c = b
    · subst hc
      rw [eb] at ec; cases ec
      exact upd_same
    · rw [upd_ne hc]
      exact e1 c o (by rw [upd_ne hc]; exact x2 c o ec)
  · rintro j H' hj ⟨e1, e2⟩ R hR
    have eb4 := e1 b _ upd_same
    have ea4 := e1 a _ ea3
    refine ⟨⟨eb4, by rw [rb.len]; exact hj⟩, ?_⟩
    rintro x H3 ⟨rfl, k, v, hk, rfl⟩
    refine ⟨rfl, ?_⟩
    have ek : ∃ s, rs[j]? = some s ∧ k = .inr s.1 := by
      have := keysS_ok rb.keys
      have h5 : (kb.map (·.1))[j]? = some k := by rw [List.getElem?_map, hk]; rfl
      rw [this, List.getElem?_map, List.getElem?_map] at h5
      cases q : rs[j]? with
      | none => rw [q] at h5; cases h5
      | some s => rw [q] at h5; exact ⟨s, rfl, (Option.some.inj h5).symm⟩
    obtain ⟨s, hs, rfl⟩ := ek
    have hm : s.1 ∈ rs.map (·.1) := List.mem_map_of_mem (List.mem_of_getElem? hs)
    obtain ⟨pr, hpr⟩ := rget_mem hm
    have ra4 := ra3.tp e1.tp
    have rb4 := rb3.tp e1.tp
    rcases ra4.get s.1 with ⟨_, q⟩ | ⟨t1, c, l, v1, q1, y1⟩
    · rw [hpr] at q; cases q
    rcases rb4.get s.1 with ⟨_, q⟩ | ⟨t2, c2, l', v2, q2, y2⟩
    · rw [hpr] at q; cases q
    rw [q1] at q2
    cases q2
    simp only [tYes, wipe, kV, tSeq, tIfS, tNext, tRet, tRetN, tDrop, tAsg, tC, cVar, tOp, tCB, tCons, tNil, tTup, tLst, tIf, tAnd, tOr, tNot, cTest, cTru, oTru, cAnd, cOr, cNot, cUn, cChain, gName, cTupG, gCons, gNil, gSub, oLt, oLe, oGt, oGe, oIs, oIsNot, oSub, oMul, oFdiv, oMod, oPow, cPar, cPar3, cAug, tDNewK, cCall, cAttr, frzE, List.mem_singleton, List.lookup_cons_self, List.getElem?_cons_zero, List.getElem?_cons_succ, List.set_cons_zero, List.set_cons_succ, Option.some.injEq, reduceCtorEq, if_true, if_false, Bool.true_eq_false, Bool.false_eq_true, decide_eq_true_eq, ite_true, ite_false, ↓reduceIte, List.length_cons, List.length_nil, true_and, and_true, exists_eq_left', exists_eq_left, List.cons.injEq]
    rw [ix_dS ea4 v1]
    try simp only [tSeq, tIfS, tNext, tRet, tRetN, tDrop, tAsg, tC, cVar, tOp, tCB, tCons, tNil, tTup, tLst, tIf, tAnd, tOr, tNot, cTest, cTru, oTru, cAnd, cOr, cNot, cUn, cChain, gName, cTupG, gCons, gNil, gSub, oLt, oLe, oGt, oGe, oIs, oIsNot, oSub, oMul, oFdiv, oMod, oPow, cPar, cPar3, cAug, tDNewK, cCall, cAttr, frzE, List.mem_singleton, List.lookup_cons_self, List.getElem?_cons_zero, List.getElem?_cons_succ, List.set_cons_zero, List.set_cons_succ, Option.some.injEq, reduceCtorEq, if_true, if_false, Bool.true_eq_false, Bool.false_eq_true, decide_eq_true_eq, ite_true, ite_false, ↓reduceIte, List.length_cons, List.length_nil, true_and, and_true, exists_eq_left', exists_eq_left, List.cons.injEq]
    rw [ix_dSf eb4 v2]
    try simp only [tSeq, tIfS, tNext, tRet, tRetN, tDrop, tAsg, tC, cVar, tOp, tCB, tCons, tNil, tTup, tLst, tIf, tAnd, tOr, tNot, cTest, cTru, oTru, cAnd, cOr, cNot, cUn, cChain, gName, cTupG, gCons, gNil, gSub, oLt, oLe, oGt, oGe, oIs, oIsNot, oSub, oMul, oFdiv, oMod, oPow, cPar, cPar3, cAug, tDNewK, cCall, cAttr, frzE, List.mem_singleton, List.lookup_cons_self, List.getElem?_cons_zero, List.getElem?_cons_succ, List.set_cons_zero, List.set_cons_succ, Option.some.injEq, reduceCtorEq, if_true, if_false, Bool.true_eq_false, Bool.false_eq_true, decide_eq_true_eq, ite_true, ite_false, ↓reduceIte, List.length_cons, List.length_nil, true_and, and_true, exists_eq_left', exists_eq_left, List.cons.injEq]
    refine s_alike_seq (N := 2) (xs := [.int c, .int l]) (ys := [.int c, .int l]) true (look_of_tup y1) (look_of_tup y2) (by decide) rfl rfl (by rw [y1]; simp) (by rw [y2]; simp) (fun i x y H4 R2 hi ex ey e4 hR2 => ?_) fun H4 e4 => ?_
    · match i, hi, ex, ey with
      | 0, _, ex, ey =>
        cases ex; cases ey
        exact s_alike_int (hR2 _ Ex.refl)
      | 1, _, ex, ey =>
        cases ex; cases ey
        exact s_alike_int (hR2 _ Ex.refl)
    · refine ⟨_, e4 _ _ e2, ?_, hR _ ⟨?_, ?_⟩⟩
      · rw [List.length_map, List.length_replicate]
        exact small1000 (by omega)
      · intro c' o ec
        have hc : c' ≠ D := fun z => by rw [z, hD] at ec; cases ec
        rw [upd_ne hc]; exact e4 _ _ (e1 c' o ec)
      · rw [upd_same, List.replicate_succ']
        simp
end
end WR.L

set_option Elab.async false
set_option linter.all false
set_option maxRecDepth 100000
set_option maxHeartbeats 1000000
namespace WR.L
open PySem PySem.Spec PyProof.Rows L2
section
variable {K : PySem.W.Frag} {n : Nat} {H : Hp} {Q : VK} {E : XK}
theorem tyB_lst {a : Addr} {xs : List V} (h : look K H a = some (.lst xs)) : tyB K H (.ref a) = some "list" := by simp only [tyB, h]
theorem tyB_dK {a : Addr} {kvs : List (Key × V)} (h : H a = some (.dK kvs)) : tyB K H (.ref a) = some "dict" := by
  simp only [tyB, look_of_dK (K := K) h, h]
theorem b_append : (bf K "append").find? (fun b => b.T == "list") = some ⟨"list", "append", "list.append", mAppend⟩ := by kernel_rfl
theorem b_get : (bf K "get").find? (fun b => b.T == "dict") = some ⟨"dict", "get", "dict.get", mGetD⟩ := by kernel_rfl
theorem b_pop : (bf K "pop").find? (fun b => b.T == "dict") = some ⟨"dict", "pop", "dict.pop", mPopD⟩ := by kernel_rfl
theorem b_clear : (bf K "clear").find? (fun b => b.T == "dict") = some ⟨"dict", "clear", "dict.clear", mClearD⟩ := by kernel_rfl
theorem b_join : (bf K "join").find? (fun b => b.T == "str") = some ⟨"str", "join", "str.join", mJoin K⟩ := by kernel_rfl
/-- two lists of the same texts -/
theorem s_alike_strs {a b : Addr} {ss : List Str} (ha : H a = some (.lst (ss.map V.str))) (hb : H b = some (.lst (ss.map V.str))) (hl : ss.length ≤ 1000) (h : ∀ H', Ex H H' → Q (.bl true) H') : SP K (n+2) "_law_alike" [.ref a, .ref b] H Q E := by
  refine s_alike_seq (N := ss.length) (xs := ss.map V.str) (ys := ss.map V.str) false (look_of_lst ha) (look_of_lst hb) hl (by simp) (by simp) (by rw [ha]; simp) (by rw [hb]; simp) (fun i x y H4 R2 hi ex ey e4 hR2 => ?_) h
  rw [ex] at ey
  cases ey
  rw [List.getElem?_map] at ex
  cases q : ss[i]? with
  | none => rw [q] at ex; cases ex
  | some s =>
    rw [q] at ex
    obtain rfl : V.str s = x := Option.some.inj ex
    exact s_alike_str (hR2 _ Ex.refl)
theorem s_passes {p d : Addr} {rs : Rws} {s : Str} (W : WAt K H p d rs) (hs : s.length ≤ 1000) (hn : isNm s = true) (h : ∀ H', Ex H H' → Q (.bl (decide (3 ≤ cnt rs s))) H') : SP K (n+4) "Wrongs.passes" [.ref p, .str s] H Q E := by
  refine o_Wrongs_passes ?_
  simp only [r_Wrongs_passes, tSeq, tIfS, tNext, tRet, tRetN, tDrop, tAsg, tC, cVar, tOp, tCB, tCons, tNil, tTup, tLst, tIf, tAnd, tOr, tNot, cTest, cTru, oTru, cAnd, cOr, cNot, cUn, cChain, gName, cTupG, gCons, gNil, gSub, oLt, oLe, oGt, oGe, oIs, oIsNot, oSub, oMul, oFdiv, oMod, oPow, cPar, cPar3, cAug, tDNewK, cCall, cAttr, frzE, List.mem_singleton, List.lookup_cons_self, List.getElem?_cons_zero, List.getElem?_cons_succ, List.set_cons_zero, List.set_cons_succ, Option.some.injEq, reduceCtorEq, if_true, if_false, Bool.true_eq_false, Bool.false_eq_true, decide_eq_true_eq, ite_true, ite_false, ↓reduceIte, List.length_cons, List.length_nil, true_and, and_true, exists_eq_left', exists_eq_left, List.cons.injEq]
  refine s_is_name hs fun H1 e1 => ?_
  rw [hn]
  try simp only [tSeq, tIfS, tNext, tRet, tRetN, tDrop, tAsg, tC, cVar, tOp, tCB, tCons, tNil, tTup, tLst, tIf, tAnd, tOr, tNot, cTest, cTru, oTru, cAnd, cOr, cNot, cUn, cChain, gName, cTupG, gCons, gNil, gSub, oLt, oLe, oGt, oGe, oIs, oIsNot, oSub, oMul, oFdiv, oMod, oPow, cPar, cPar3, cAug, tDNewK, cCall, cAttr, frzE, List.mem_singleton, List.lookup_cons_self, List.getElem?_cons_zero, List.getElem?_cons_succ, List.set_cons_zero, List.set_cons_succ, Option.some.injEq, reduceCtorEq, if_true, if_false, Bool.true_eq_false, Bool.false_eq_true, decide_eq_true_eq, ite_true, ite_false, ↓reduceIte, List.length_cons, List.length_nil, true_and, and_true, exists_eq_left', exists_eq_left, List.cons.injEq]
  have W1 := W.ex e1
  refine mC_own (c_count_of_1 K _) ?_ fun P P' hh q => mono_var hh q
  obtain ⟨⟨dx, hp⟩, _⟩ := id W1
  try simp only [tSeq, tIfS, tNext, tRet, tRetN, tDrop, tAsg, tC, cVar, tOp, tCB, tCons, tNil, tTup, tLst, tIf, tAnd, tOr, tNot, cTest, cTru, oTru, cAnd, cOr, cNot, cUn, cChain, gName, cTupG, gCons, gNil, gSub, oLt, oLe, oGt, oGe, oIs, oIsNot, oSub, oMul, oFdiv, oMod, oPow, cPar, cPar3, cAug, tDNewK, cCall, cAttr, frzE, List.mem_singleton, List.lookup_cons_self, List.getElem?_cons_zero, List.getElem?_cons_succ, List.set_cons_zero, List.set_cons_succ, Option.some.injEq, reduceCtorEq, if_true, if_false, Bool.true_eq_false, Bool.false_eq_true, decide_eq_true_eq, ite_true, ite_false, ↓reduceIte, List.length_cons, List.length_nil, true_and, and_true, exists_eq_left', exists_eq_left, List.cons.injEq]
  refine ⟨p, dx, _, rfl, hp, lk1 (by decide +kernel), ?_⟩
  try simp only [tSeq, tIfS, tNext, tRet, tRetN, tDrop, tAsg, tC, cVar, tOp, tCB, tCons, tNil, tTup, tLst, tIf, tAnd, tOr, tNot, cTest, cTru, oTru, cAnd, cOr, cNot, cUn, cChain, gName, cTupG, gCons, gNil, gSub, oLt, oLe, oGt, oGe, oIs, oIsNot, oSub, oMul, oFdiv, oMod, oPow, cPar, cPar3, cAug, tDNewK, cCall, cAttr, frzE, List.mem_singleton, List.lookup_cons_self, List.getElem?_cons_zero, List.getElem?_cons_succ, List.set_cons_zero, List.set_cons_succ, Option.some.injEq, reduceCtorEq, if_true, if_false, Bool.true_eq_false, Bool.false_eq_true, decide_eq_true_eq, ite_true, ite_false, ↓reduceIte, List.length_cons, List.length_nil, true_and, and_true, exists_eq_left', exists_eq_left, List.cons.injEq]
  refine s_count_of W1 hs hn fun H2 e2 => ?_
  try simp only [tSeq, tIfS, tNext, tRet, tRetN, tDrop, tAsg, tC, cVar, tOp, tCB, tCons, tNil, tTup, tLst, tIf, tAnd, tOr, tNot, cTest, cTru, oTru, cAnd, cOr, cNot, cUn, cChain, gName, cTupG, gCons, gNil, gSub, oLt, oLe, oGt, oGe, oIs, oIsNot, oSub, oMul, oFdiv, oMod, oPow, cPar, cPar3, cAug, tDNewK, cCall, cAttr, frzE, List.mem_singleton, List.lookup_cons_self, List.getElem?_cons_zero, List.getElem?_cons_succ, List.set_cons_zero, List.set_cons_succ, Option.some.injEq, reduceCtorEq, if_true, if_false, Bool.true_eq_false, Bool.false_eq_true, decide_eq_true_eq, ite_true, ite_false, ↓reduceIte, List.length_cons, List.length_nil, true_and, and_true, exists_eq_left', exists_eq_left, List.cons.injEq]
  exact h H2 (e1.trans e2)
theorem s_passes_bad {p : Addr} {s : Str} (hs : s.length ≤ 1000) (hn : isNm s = false) (h : ∀ H', Ex H H' → Q (.bl false) H') : SP K (n+4) "Wrongs.passes" [.ref p, .str s] H Q E := by
  refine o_Wrongs_passes ?_
  simp only [r_Wrongs_passes, tSeq, tIfS, tNext, tRet, tRetN, tDrop, tAsg, tC, cVar, tOp, tCB, tCons, tNil, tTup, tLst, tIf, tAnd, tOr, tNot, cTest, cTru, oTru, cAnd, cOr, cNot, cUn, cChain, gName, cTupG, gCons, gNil, gSub, oLt, oLe, oGt, oGe, oIs, oIsNot, oSub, oMul, oFdiv, oMod, oPow, cPar, cPar3, cAug, tDNewK, cCall, cAttr, frzE, List.mem_singleton, List.lookup_cons_self, List.getElem?_cons_zero, List.getElem?_cons_succ, List.set_cons_zero, List.set_cons_succ, Option.some.injEq, reduceCtorEq, if_true, if_false, Bool.true_eq_false, Bool.false_eq_true, decide_eq_true_eq, ite_true, ite_false, ↓reduceIte, List.length_cons, List.length_nil, true_and, and_true, exists_eq_left', exists_eq_left, List.cons.injEq]
  refine s_is_name hs fun H1 e1 => ?_
  rw [hn]
  try simp only [tSeq, tIfS, tNext, tRet, tRetN, tDrop, tAsg, tC, cVar, tOp, tCB, tCons, tNil, tTup, tLst, tIf, tAnd, tOr, tNot, cTest, cTru, oTru, cAnd, cOr, cNot, cUn, cChain, gName, cTupG, gCons, gNil, gSub, oLt, oLe, oGt, oGe, oIs, oIsNot, oSub, oMul, oFdiv, oMod, oPow, cPar, cPar3, cAug, tDNewK, cCall, cAttr, frzE, List.mem_singleton, List.lookup_cons_self, List.getElem?_cons_zero, List.getElem?_cons_succ, List.set_cons_zero, List.set_cons_succ, Option.some.injEq, reduceCtorEq, if_true, if_false, Bool.true_eq_false, Bool.false_eq_true, decide_eq_true_eq, ite_true, ite_false, ↓reduceIte, List.length_cons, List.length_nil, true_and, and_true, exists_eq_left', exists_eq_left, List.cons.injEq]
  exact h H1 e1
theorem s_passes_o {p : Addr} {v : V} {m : String} (hv : tyN K H v = some m) (hm : kitB m "str" = some false) (h : Q (.bl false) H) : SP K (n+4) "Wrongs.passes" [.ref p, v] H Q E := by
  refine o_Wrongs_passes ?_
  simp only [r_Wrongs_passes, tSeq, tIfS, tNext, tRet, tRetN, tDrop, tAsg, tC, cVar, tOp, tCB, tCons, tNil, tTup, tLst, tIf, tAnd, tOr, tNot, cTest, cTru, oTru, cAnd, cOr, cNot, cUn, cChain, gName, cTupG, gCons, gNil, gSub, oLt, oLe, oGt, oGe, oIs, oIsNot, oSub, oMul, oFdiv, oMod, oPow, cPar, cPar3, cAug, tDNewK, cCall, cAttr, frzE, List.mem_singleton, List.lookup_cons_self, List.getElem?_cons_zero, List.getElem?_cons_succ, List.set_cons_zero, List.set_cons_succ, Option.some.injEq, reduceCtorEq, if_true, if_false, Bool.true_eq_false, Bool.false_eq_true, decide_eq_true_eq, ite_true, ite_false, ↓reduceIte, List.length_cons, List.length_nil, true_and, and_true, exists_eq_left', exists_eq_left, List.cons.injEq]
  refine s_is_name_o hv hm ?_
  try simp only [tSeq, tIfS, tNext, tRet, tRetN, tDrop, tAsg, tC, cVar, tOp, tCB, tCons, tNil, tTup, tLst, tIf, tAnd, tOr, tNot, cTest, cTru, oTru, cAnd, cOr, cNot, cUn, cChain, gName, cTupG, gCons, gNil, gSub, oLt, oLe, oGt, oGe, oIs, oIsNot, oSub, oMul, oFdiv, oMod, oPow, cPar, cPar3, cAug, tDNewK, cCall, cAttr, frzE, List.mem_singleton, List.lookup_cons_self, List.getElem?_cons_zero, List.getElem?_cons_succ, List.set_cons_zero, List.set_cons_succ, Option.some.injEq, reduceCtorEq, if_true, if_false, Bool.true_eq_false, Bool.false_eq_true, decide_eq_true_eq, ite_true, ite_false, ↓reduceIte, List.length_cons, List.length_nil, true_and, and_true, exists_eq_left', exists_eq_left, List.cons.injEq]
  exact h
theorem s_law_seen {d : Addr} {rs : Rws} {s : Str} (W : RAt H d rs) (hl : rs.length ≤ 900) (h : ∀ H', RAt H' d (rput rs s (cnt rs s + 1, 5)) → Exd d H H' → Q (.int (cnt rs s + 1)) H') : SP K (n+1) "_law_seen" [.ref d, .str s] H Q E := by
  refine o__law_seen ?_
  unfold r__law_seen
  refine seq_ fun N1 h1 => ?_
  obtain ⟨kvs, hd, r⟩ := W
  simp only [tAsg, tOp]
  refine mC_blt ?_ fun P P' hh q => mono_var hh q
  try simp only [tSeq, tIfS, tNext, tRet, tRetN, tDrop, tAsg, tC, cVar, tOp, tCB, tCons, tNil, tTup, tLst, tIf, tAnd, tOr, tNot, cTest, cTru, oTru, cAnd, cOr, cNot, cUn, cChain, gName, cTupG, gCons, gNil, gSub, oLt, oLe, oGt, oGe, oIs, oIsNot, oSub, oMul, oFdiv, oMod, oPow, cPar, cPar3, cAug, tDNewK, cCall, cAttr, frzE, List.mem_singleton, List.lookup_cons_self, List.getElem?_cons_zero, List.getElem?_cons_succ, List.set_cons_zero, List.set_cons_succ, Option.some.injEq, reduceCtorEq, if_true, if_false, Bool.true_eq_false, Bool.false_eq_true, decide_eq_true_eq, ite_true, ite_false, ↓reduceIte, List.length_cons, List.length_nil, true_and, and_true, exists_eq_left', exists_eq_left, List.cons.injEq]
  have e0 : look K H d = some (.dK kvs) := look_of_dK hd
  refine ⟨ins_dK (K := K) e0, "dict", tyB_dK (K := K) hd, _, b_get, ?_⟩
  try simp only [tSeq, tIfS, tNext, tRet, tRetN, tDrop, tAsg, tC, cVar, tOp, tCB, tCons, tNil, tTup, tLst, tIf, tAnd, tOr, tNot, cTest, cTru, oTru, cAnd, cOr, cNot, cUn, cChain, gName, cTupG, gCons, gNil, gSub, oLt, oLe, oGt, oGe, oIs, oIsNot, oSub, oMul, oFdiv, oMod, oPow, cPar, cPar3, cAug, tDNewK, cCall, cAttr, frzE, List.mem_singleton, List.lookup_cons_self, List.getElem?_cons_zero, List.getElem?_cons_succ, List.set_cons_zero, List.set_cons_succ, Option.some.injEq, reduceCtorEq, if_true, if_false, Bool.true_eq_false, Bool.false_eq_true, decide_eq_true_eq, ite_true, ite_false, ↓reduceIte, List.length_cons, List.length_nil, true_and, and_true, exists_eq_left', exists_eq_left, List.cons.injEq]
  refine ⟨by simp only [sizeLine_eq]; omega, fun t0 ht0 => ?_⟩
  have ndt : d ≠ t0 := ne_of_none hd ht0
  have hd0 : (upd H t0 (.tup [.int 0, .int 0])) d = some (.dK kvs) := by rw [upd_ne ndt]; exact hd
  have r0 : RR (upd H t0 (.tup [.int 0, .int 0])) kvs rs := r.tp (Ex.refl.new ht0).tp
  simp only [mGetD, oGet, hd0, keyOf]
  have key : ∀ t, (upd H t0 (.tup [.int 0, .int 0])) t = some (.tup [.int (cnt rs s), .int ((rget rs s).getD (0, 0)).2]) → oIx K (.ref t) (.int 0) (upd H t0 (.tup [.int 0, .int 0])) (fun x H1 => oAdd K x (.int 1) H1 fun x H1 => N1 [some (.ref d), some (.str s), some x] H1) := by
    intro t et
    rw [ix_tup (look_of_tup et) (v := .int (cnt rs s)) rfl]
    simp only [oAdd]
    refine h1 _ _ (seq_ fun N2 h2 => ?_)
    try simp only [tSeq, tIfS, tNext, tRet, tRetN, tDrop, tAsg, tC, cVar, tOp, tCB, tCons, tNil, tTup, tLst, tIf, tAnd, tOr, tNot, cTest, cTru, oTru, cAnd, cOr, cNot, cUn, cChain, gName, cTupG, gCons, gNil, gSub, oLt, oLe, oGt, oGe, oIs, oIsNot, oSub, oMul, oFdiv, oMod, oPow, cPar, cPar3, cAug, tDNewK, cCall, cAttr, frzE, List.mem_singleton, List.lookup_cons_self, List.getElem?_cons_zero, List.getElem?_cons_succ, List.set_cons_zero, List.set_cons_succ, Option.some.injEq, reduceCtorEq, if_true, if_false, Bool.true_eq_false, Bool.false_eq_true, decide_eq_true_eq, ite_true, ite_false, ↓reduceIte, List.length_cons, List.length_nil, true_and, and_true, exists_eq_left', exists_eq_left, List.cons.injEq]
    refine ⟨by simp only [sizeLine_eq]; omega, fun t1 ht1 => ?_⟩
    have ndt1 : d ≠ t1 := ne_of_none hd0 ht1
    have hd1 : (upd (upd H t0 (.tup [.int 0, .int 0])) t1 (.tup [.int (cnt rs s + 1), .int 5])) d = some (.dK kvs) := by rw [upd_ne ndt1]; exact hd0
    refine set_dS hd1 (by rw [r.len]; omega) (h2 _ _ ?_)
    try simp only [tSeq, tIfS, tNext, tRet, tRetN, tDrop, tAsg, tC, cVar, tOp, tCB, tCons, tNil, tTup, tLst, tIf, tAnd, tOr, tNot, cTest, cTru, oTru, cAnd, cOr, cNot, cUn, cChain, gName, cTupG, gCons, gNil, gSub, oLt, oLe, oGt, oGe, oIs, oIsNot, oSub, oMul, oFdiv, oMod, oPow, cPar, cPar3, cAug, tDNewK, cCall, cAttr, frzE, List.mem_singleton, List.lookup_cons_self, List.getElem?_cons_zero, List.getElem?_cons_succ, List.set_cons_zero, List.set_cons_succ, Option.some.injEq, reduceCtorEq, if_true, if_false, Bool.true_eq_false, Bool.false_eq_true, decide_eq_true_eq, ite_true, ite_false, ↓reduceIte, List.length_cons, List.length_nil, true_and, and_true, exists_eq_left', exists_eq_left, List.cons.injEq]
    refine h _ ⟨_, upd_same, ?_⟩ fun b o hb eb => ?_
    · have r3 := RR.put (n := s) (t := t1) (c := cnt rs s + 1) (l := 5) (H := upd (upd H t0 (.tup [.int 0, .int 0])) t1 (.tup [.int (cnt rs s + 1), .int 5])) upd_same (r0.tp (Ex.refl.new ht1).tp)
      refine r3.tp fun b xs eb => ?_
      have hb : b ≠ d := fun z => by rw [z, hd1] at eb; cases eb
      rw [upd_ne hb]; exact eb
    · rw [upd_ne hb]
      exact ((Ex.refl.new ht0).new ((Ex.refl.new ht0).none ht1)) b o eb
  rcases r0.get s with ⟨a, b⟩ | ⟨t, c, l, a, b, et⟩
  · rw [a]
    refine key t0 ?_
    rw [upd_same, cnt, b]; rfl
  · rw [a]
    refine key t ?_
    rw [et, cnt, b]; rfl
end
end WR.L

set_option Elab.async false
set_option linter.all false
set_option maxRecDepth 100000
set_option maxHeartbeats 1000000
namespace WR.L
open PySem PySem.Spec PyProof.Rows L2
section
variable {K : PySem.W.Frag} {n : Nat} {H : Hp} {Q : VK} {E : XK}
theorem RR.at {H : Hp} : ∀ {kvs : List (Key × V)} {rs : Rws} {j : Nat} {k : Key} {v : V}, RR H kvs rs → kvs[j]? = some (k, v) → ∃ s c l t, rs[j]? = some (s, c, l) ∧ k = .inr s ∧ v = .ref t ∧ H t = some (.tup [.int c, .int l])
  | [], [], j, k, v, _, h => by simp at h
  | [], _ :: _, _, _, _, h, _ => h.elim
  | _ :: _, [], _, _, _, h, _ => h.elim
  | (k0, v0) :: kvs, (s, c, l) :: rs, 0, k, v, h, e => by
    simp at e
    obtain ⟨rfl, rfl⟩ := e
    obtain ⟨h1, ⟨t, h2, h3⟩, _⟩ := h
    exact ⟨s, c, l, t, rfl, h1, h2, h3⟩
  | (k0, v0) :: kvs, (s, c, l) :: rs, j + 1, k, v, h, e => by
    simp at e
    obtain ⟨s', c', l', t, h1, h2⟩ := RR.at h.2.2 e
    exact ⟨s', c', l', t, by simpa using h1, h2⟩
/-- name, (count, left) = the pair at T -/
theorem unpack {T t : Addr} {s : Str} {c l : Int} {σ : St} {R : St → Hp → Prop} (hT : H T = some (.tup [.str s, .ref t])) (ht : H t = some (.tup [.int c, .int l])) {i1 i2 i3 : Nat}
    (q : R (((σ.set i1 (some (.str s))).set i2 (some (.int c))).set i3 (some (.int l))) H) : cTupG K 2 (gCons (gName i1) (gCons (cTupG K 2 (gCons (gName i2) (gCons (gName i3) gNil))) gNil)) (.ref T) σ H R := by
  simp only [cTupG, look_of_tup hT]
  refine ⟨rfl, _, _, rfl, _, _, rfl, ?_⟩
  show cTupG K 2 _ (.ref t) _ _ _
  simp only [cTupG, look_of_tup ht]
  exact ⟨rfl, _, _, rfl, _, _, rfl, rfl, rfl, q⟩
def goneR (ts : Rws) : List Str := (ts.filter fun r => decide (r.2.2 = 1)).map (·.1)
def turnR (rs : Rws) : Rws := (rs.filter fun r => decide (1 < r.2.2)).map fun r => (r.1, r.2.1, r.2.2 - 1)
theorem goneR_snoc {ts : Rws} {j : Nat} {r : Str × Int × Int} (h : ts[j]? = some r) : goneR (ts.take (j + 1)) = goneR (ts.take j) ++ (if r.2.2 = 1 then [r.1] else []) := by
  unfold goneR
  rw [List.take_add_one, h, List.filter_append, List.map_append]
  by_cases c : r.2.2 = 1 <;> simp [c]
theorem turnR_snoc {ts : Rws} {j : Nat} {r : Str × Int × Int} (h : ts[j]? = some r) : turnR (ts.take (j + 1)) = turnR (ts.take j) ++ (if 1 < r.2.2 then [(r.1, r.2.1, r.2.2 - 1)] else []) := by
  unfold turnR
  rw [List.take_add_one, h, List.filter_append, List.map_append]
  by_cases c : 1 < r.2.2 <;> simp [c]
theorem turnR_new {ts : Rws} {j : Nat} {r : Str × Int × Int} (nd : (ts.map (·.1)).Nodup) (h : ts[j]? = some r) : ∀ q ∈ turnR (ts.take j), q.1 ≠ r.1 := by
  intro q hq e
  unfold turnR at hq
  obtain ⟨x, hx, rfl⟩ := List.mem_map.mp hq
  have hx1 := (List.mem_filter.mp hx).1
  obtain ⟨i, hi, e1⟩ := List.mem_iff_getElem.mp hx1
  have hij : i < j := by have := hi; rw [List.length_take] at this; omega
  have e2 : ts[i]? = some x := by rw [← List.getElem?_take_of_lt hij, List.getElem?_eq_getElem hi, e1]
  have m1 : (ts.map (·.1))[i]? = some r.1 := by rw [List.getElem?_map, e2]; exact congrArg some e
  have m2 : (ts.map (·.1))[j]? = some r.1 := by rw [List.getElem?_map, h]; rfl
  have h2 := (List.getElem?_eq_some_iff.mp m2).1
  have h3 := (List.getElem?_eq_some_iff.mp m1).1
  exact absurd (by rw [(List.getElem?_eq_some_iff.mp m1).2, (List.getElem?_eq_some_iff.mp m2).2]) (List.pairwise_iff_getElem.mp nd i j h3 h2 hij)
theorem goneR_len (ts : Rws) : (goneR ts).length ≤ ts.length := by
  unfold goneR; rw [List.length_map]; exact List.length_filter_le _ _
theorem turnR_len (ts : Rws) : (turnR ts).length ≤ ts.length := by
  unfold turnR; rw [List.length_map]; exact List.length_filter_le _ _
theorem s_turn {p d : Addr} {rs : Rws} (W : WAt K H p d rs) (hl : rs.length < 64) (nd : (rs.map (·.1)).Nodup)
    (h : ∀ ts l d' H', Told rs ts → H' l = some (.lst ((goneR ts).map V.str)) → WAt K H' p d' (turnR rs) → (∀ b o, b ≠ p → b ≠ d → H b = some o → H' b = some o) → H l = none → H d' = none → Q (.ref l) H') : SP K (n+2) "Wrongs.turn" [.ref p] H Q E := by
  refine o_Wrongs_turn ?_
  unfold r_Wrongs_turn
  refine seq_ fun N1 h1 => .inl ?_
  simp only [tAsg, cLc, cDview, frzE]
  refine mC_own (c_told_0 K _) ?_ fun P P' hh q => mono_var hh q
  obtain ⟨⟨dx, hp⟩, kvs, hd, r⟩ := id W
  try simp only [tSeq, tIfS, tNext, tRet, tRetN, tDrop, tAsg, tC, cVar, tOp, tCB, tCons, tNil, tTup, tLst, tIf, tAnd, tOr, tNot, cTest, cTru, oTru, cAnd, cOr, cNot, cUn, cChain, gName, cTupG, gCons, gNil, gSub, oLt, oLe, oGt, oGe, oIs, oIsNot, oSub, oMul, oFdiv, oMod, oPow, cPar, cPar3, cAug, tDNewK, cCall, cAttr, frzE, List.mem_singleton, List.lookup_cons_self, List.getElem?_cons_zero, List.getElem?_cons_succ, List.set_cons_zero, List.set_cons_succ, Option.some.injEq, reduceCtorEq, if_true, if_false, Bool.true_eq_false, Bool.false_eq_true, decide_eq_true_eq, ite_true, ite_false, ↓reduceIte, List.length_cons, List.length_nil, true_and, and_true, exists_eq_left', exists_eq_left, List.cons.injEq]
  refine ⟨p, dx, _, rfl, hp, lk1 (by decide +kernel), ?_⟩
  try simp only [tSeq, tIfS, tNext, tRet, tRetN, tDrop, tAsg, tC, cVar, tOp, tCB, tCons, tNil, tTup, tLst, tIf, tAnd, tOr, tNot, cTest, cTru, oTru, cAnd, cOr, cNot, cUn, cChain, gName, cTupG, gCons, gNil, gSub, oLt, oLe, oGt, oGe, oIs, oIsNot, oSub, oMul, oFdiv, oMod, oPow, cPar, cPar3, cAug, tDNewK, cCall, cAttr, frzE, List.mem_singleton, List.lookup_cons_self, List.getElem?_cons_zero, List.getElem?_cons_succ, List.set_cons_zero, List.set_cons_succ, Option.some.injEq, reduceCtorEq, if_true, if_false, Bool.true_eq_false, Bool.false_eq_true, decide_eq_true_eq, ite_true, ite_false, ↓reduceIte, List.length_cons, List.length_nil, true_and, and_true, exists_eq_left', exists_eq_left, List.cons.injEq]
  refine s_told W hl nd fun ts q H1 ht e1 hq ⟨kq, eq, rq⟩ => ?_
  simp only [eq]
  intro o1
  simp only [upd_same]
  intro D hD
  have nqD : q ≠ D := fun z => by rw [← z, upd_same] at hD; cases hD
  have hD1 : H1 D = none := by rw [upd_ne nqD.symm] at hD; exact hD
  have ndq : d ≠ q := ne_of_none hd hq
  have npq : p ≠ q := ne_of_none hp hq
  have rq2 : RR (upd H1 q (.frz o1 (.dK kq))) kq ts := rq.tp fun t xs e => by
    have : t ≠ q := fun z => by rw [z, eq] at e; cases e
    rw [upd_ne this]; exact e
  refine lpc_inv (n := ts.length) (fun j H' => Ex (upd H1 q (.frz o1 (.dK kq))) H' ∧ H' D = some (.lst ((goneR (ts.take j)).map V.str))) ?_ ?_ ⟨Ex.refl.new hD, by rw [upd_same]; rfl⟩
  · rintro H2 ⟨e2, hD2⟩
    have eq2 := e2 q _ upd_same
    refine ⟨⟨eq2, by rw [rq.len]; exact Nat.le_refl _⟩, ?_⟩
    rw [List.take_length] at hD2
    try simp only [tSeq, tIfS, tNext, tRet, tRetN, tDrop, tAsg, tC, cVar, tOp, tCB, tCons, tNil, tTup, tLst, tIf, tAnd, tOr, tNot, cTest, cTru, oTru, cAnd, cOr, cNot, cUn, cChain, gName, cTupG, gCons, gNil, gSub, oLt, oLe, oGt, oGe, oIs, oIsNot, oSub, oMul, oFdiv, oMod, oPow, cPar, cPar3, cAug, tDNewK, cCall, cAttr, frzE, List.mem_singleton, List.lookup_cons_self, List.getElem?_cons_zero, List.getElem?_cons_succ, List.set_cons_zero, List.set_cons_succ, Option.some.injEq, reduceCtorEq, if_true, if_false, Bool.true_eq_false, Bool.false_eq_true, decide_eq_true_eq, ite_true, ite_false, ↓reduceIte, List.length_cons, List.length_nil, true_and, and_true, exists_eq_left', exists_eq_left, List.cons.injEq]
    refine h1 _ _ (seq_ fun N2 h2 => ?_)
    have e02 : Ex H H2 := fun b ob eb => e2 b ob (by rw [upd_ne (ne_of_none eb hq)]; exact e1 b ob eb)
    have hp2 := e02 _ _ hp
    have hd2 := e02 _ _ hd
    simp only [cFldS]
    refine .inl ?_
    simp only [cDc, cDview, tSeq, tIfS, tNext, tRet, tRetN, tDrop, tAsg, tC, cVar, tOp, tCB, tCons, tNil, tTup, tLst, tIf, tAnd, tOr, tNot, cTest, cTru, oTru, cAnd, cOr, cNot, cUn, cChain, gName, cTupG, gCons, gNil, gSub, oLt, oLe, oGt, oGe, oIs, oIsNot, oSub, oMul, oFdiv, oMod, oPow, cPar, cPar3, cAug, tDNewK, cCall, cAttr, frzE, List.mem_singleton, List.lookup_cons_self, List.getElem?_cons_zero, List.getElem?_cons_succ, List.set_cons_zero, List.set_cons_succ, Option.some.injEq, reduceCtorEq, if_true, if_false, Bool.true_eq_false, Bool.false_eq_true, decide_eq_true_eq, ite_true, ite_false, ↓reduceIte, List.length_cons, List.length_nil, true_and, and_true, exists_eq_left', exists_eq_left, List.cons.injEq]
    rw [ins_ins hp2]
    try simp only [tSeq, tIfS, tNext, tRet, tRetN, tDrop, tAsg, tC, cVar, tOp, tCB, tCons, tNil, tTup, tLst, tIf, tAnd, tOr, tNot, cTest, cTru, oTru, cAnd, cOr, cNot, cUn, cChain, gName, cTupG, gCons, gNil, gSub, oLt, oLe, oGt, oGe, oIs, oIsNot, oSub, oMul, oFdiv, oMod, oPow, cPar, cPar3, cAug, tDNewK, cCall, cAttr, frzE, List.mem_singleton, List.lookup_cons_self, List.getElem?_cons_zero, List.getElem?_cons_succ, List.set_cons_zero, List.set_cons_succ, Option.some.injEq, reduceCtorEq, if_true, if_false, Bool.true_eq_false, Bool.false_eq_true, decide_eq_true_eq, ite_true, ite_false, ↓reduceIte, List.length_cons, List.length_nil, true_and, and_true, exists_eq_left', exists_eq_left, List.cons.injEq]
    simp only [hd2]
    intro o2
    simp only [upd_same]
    intro F hF
    have npd : p ≠ d := fun z => by rw [z, hd] at hp; cases hp
    have ndF : d ≠ F := fun z => by rw [← z, upd_same] at hF; cases hF
    have hF2 : H2 F = none := by rw [upd_ne ndF.symm] at hF; exact hF
    have r2 : RR (upd H2 d (.frz o2 (.dK kvs))) kvs rs := r.tp fun t xs e => by
      have : t ≠ d := fun z => by rw [z, hd] at e; cases e
      rw [upd_ne this]; exact e02 _ _ e
    refine lpd_inv (n := rs.length) (fun j H' => Ex (upd H2 d (.frz o2 (.dK kvs))) H' ∧ ∃ kf, H' F = some (.dK kf) ∧ RR H' kf (turnR (rs.take j))) ?_ ?_ ⟨Ex.refl.new hF, [], upd_same, trivial⟩
    · rintro H3 ⟨e3, kf, eF, rF⟩
      have ed3 := e3 d _ upd_same
      refine ⟨⟨ed3, by rw [r.len]; exact Nat.le_refl _⟩, ?_⟩
      rw [List.take_length] at rF
      have hp3 := e3 p _ (by rw [upd_ne npd]; exact hp2)
      try simp only [tSeq, tIfS, tNext, tRet, tRetN, tDrop, tAsg, tC, cVar, tOp, tCB, tCons, tNil, tTup, tLst, tIf, tAnd, tOr, tNot, cTest, cTru, oTru, cAnd, cOr, cNot, cUn, cChain, gName, cTupG, gCons, gNil, gSub, oLt, oLe, oGt, oGe, oIs, oIsNot, oSub, oMul, oFdiv, oMod, oPow, cPar, cPar3, cAug, tDNewK, cCall, cAttr, frzE, List.mem_singleton, List.lookup_cons_self, List.getElem?_cons_zero, List.getElem?_cons_succ, List.set_cons_zero, List.set_cons_succ, Option.some.injEq, reduceCtorEq, if_true, if_false, Bool.true_eq_false, Bool.false_eq_true, decide_eq_true_eq, ite_true, ite_false, ↓reduceIte, List.length_cons, List.length_nil, true_and, and_true, exists_eq_left', exists_eq_left, List.cons.injEq]
      rw [hp3]
      try simp only [tSeq, tIfS, tNext, tRet, tRetN, tDrop, tAsg, tC, cVar, tOp, tCB, tCons, tNil, tTup, tLst, tIf, tAnd, tOr, tNot, cTest, cTru, oTru, cAnd, cOr, cNot, cUn, cChain, gName, cTupG, gCons, gNil, gSub, oLt, oLe, oGt, oGe, oIs, oIsNot, oSub, oMul, oFdiv, oMod, oPow, cPar, cPar3, cAug, tDNewK, cCall, cAttr, frzE, List.mem_singleton, List.lookup_cons_self, List.getElem?_cons_zero, List.getElem?_cons_succ, List.set_cons_zero, List.set_cons_succ, Option.some.injEq, reduceCtorEq, if_true, if_false, Bool.true_eq_false, Bool.false_eq_true, decide_eq_true_eq, ite_true, ite_false, ↓reduceIte, List.length_cons, List.length_nil, true_and, and_true, exists_eq_left', exists_eq_left, List.cons.injEq]
      refine ⟨by decide, h2 _ _ ?_⟩
      try simp only [tSeq, tIfS, tNext, tRet, tRetN, tDrop, tAsg, tC, cVar, tOp, tCB, tCons, tNil, tTup, tLst, tIf, tAnd, tOr, tNot, cTest, cTru, oTru, cAnd, cOr, cNot, cUn, cChain, gName, cTupG, gCons, gNil, gSub, oLt, oLe, oGt, oGe, oIs, oIsNot, oSub, oMul, oFdiv, oMod, oPow, cPar, cPar3, cAug, tDNewK, cCall, cAttr, frzE, List.mem_singleton, List.lookup_cons_self, List.getElem?_cons_zero, List.getElem?_cons_succ, List.set_cons_zero, List.set_cons_succ, Option.some.injEq, reduceCtorEq, if_true, if_false, Bool.true_eq_false, Bool.false_eq_true, decide_eq_true_eq, ite_true, ite_false, ↓reduceIte, List.length_cons, List.length_nil, true_and, and_true, exists_eq_left', exists_eq_left, List.cons.injEq]
      have hD3 := e3 D _ (by rw [upd_ne (fun z => by rw [z, hd2] at hD2; cases hD2)]; exact hD2)
      have npD : p ≠ D := fun z => by rw [← z, hp3] at hD3; cases hD3
      have npF : p ≠ F := fun z => by rw [← z, hp3] at eF; cases eF
      refine h ts D F _ ht ?_ ⟨⟨dx, ?_⟩, kf, ?_, ?_⟩ (fun b o hb1 hb2 eb => ?_) (e1.none hD1) (e02.none hF2)
      · rw [upd_ne npD.symm]; exact hD3
      · rw [upd_same]; rfl
      · rw [upd_ne npF.symm]; exact eF
      · refine rF.tp fun t xs e => ?_
        rw [upd_ne (fun z => by rw [z, hp3] at e; cases e)]; exact e
      · rw [upd_ne hb1]
        exact e3 b o (by rw [upd_ne hb2]; exact e02 b o eb)
    · rintro j H3 hj ⟨e3, kf, eF, rF⟩ R hR
      have ed3 := e3 d _ upd_same
      refine ⟨⟨ed3, by rw [r.len]; exact hj⟩, ?_⟩
      rintro x H4 ⟨T, k, v, hk, rfl, hT, rfl⟩
      have r3 := r2.tp e3.tp
      obtain ⟨s, c, l, t, hs, rfl, rfl, et⟩ := RR.at r3 hk
      have et4 : (upd H3 T (.tup [.str s, .ref t])) t = some (.tup [.int c, .int l]) := (Ex.refl.new hT) _ _ et
      refine unpack (s := s) (t := t) upd_same et4 ?_
      refine ⟨rfl, ?_⟩
      simp only [wipe, tSeq, tIfS, tNext, tRet, tRetN, tDrop, tAsg, tC, cVar, tOp, tCB, tCons, tNil, tTup, tLst, tIf, tAnd, tOr, tNot, cTest, cTru, oTru, cAnd, cOr, cNot, cUn, cChain, gName, cTupG, gCons, gNil, gSub, oLt, oLe, oGt, oGe, oIs, oIsNot, oSub, oMul, oFdiv, oMod, oPow, cPar, cPar3, cAug, tDNewK, cCall, cAttr, frzE, List.mem_singleton, List.lookup_cons_self, List.getElem?_cons_zero, List.getElem?_cons_succ, List.set_cons_zero, List.set_cons_succ, Option.some.injEq, reduceCtorEq, if_true, if_false, Bool.true_eq_false, Bool.false_eq_true, decide_eq_true_eq, ite_true, ite_false, ↓reduceIte, List.length_cons, List.length_nil, true_and, and_true, exists_eq_left', exists_eq_left, List.cons.injEq]
      have nFT : F ≠ T := ne_of_none eF hT
      have x4 : Ex (upd H2 d (.frz o2 (.dK kvs))) (upd H3 T (.tup [.str s, .ref t])) := e3.trans (Ex.refl.new hT)
      have rF4 := rF.tp (Ex.refl.new hT (o := .tup [.str s, .ref t])).tp
      have sn := turnR_snoc (ts := rs) hs
      by_cases c1 : 1 < l
      · rw [if_pos c1]
        simp only [c1, if_true] at sn
        refine ⟨by simp only [sizeLine_eq]; omega, fun u hu => ?_⟩
        have nFu : F ≠ u := ne_of_none (by rw [upd_ne nFT]; exact eF) hu
        have eF5 : (upd (upd H3 T (.tup [.str s, .ref t])) u (.tup [.int c, .int (l - 1)])) F = some (.dK kf) := by rw [upd_ne nFu, upd_ne nFT]; exact eF
        have hlen : kf.length < 1000 := by
          have := turnR_len (rs.take j)
          rw [rF.len]
          rw [List.length_take] at this
          omega
        refine ⟨kf, .inr s, rfl, eF5, Nat.lt_trans hlen (small1000 (Nat.le_refl _)), hR _ ⟨?_, _, upd_same, ?_⟩⟩
        · intro b o eb
          have hb : b ≠ F := fun z => by rw [z, hF] at eb; cases eb
          rw [upd_ne hb]
          exact (x4.trans (Ex.refl.new hu)) b o eb
        · have r6 := RR.put (n := s) (t := u) (c := c) (l := l - 1) (H := upd (upd H3 T (.tup [.str s, .ref t])) u (.tup [.int c, .int (l - 1)])) upd_same (rF4.tp (Ex.refl.new hu).tp)
          rw [rput_snoc (turnR_new nd hs), ← sn] at r6
          refine r6.tp fun b xs eb => ?_
          have hb : b ≠ F := fun z => by rw [z, eF5] at eb; cases eb
          rw [upd_ne hb]; exact eb
      · rw [if_neg c1]
        simp only [c1, if_false, List.append_nil] at sn
        refine hR _ ⟨x4, kf, by rw [upd_ne nFT]; exact eF, ?_⟩
        rw [sn]; exact rF4
  · rintro j H2 hj ⟨e2, hD2⟩ R hR
    have eq2 := e2 q _ upd_same
    refine ⟨⟨eq2, by rw [rq.len]; exact hj⟩, ?_⟩
    rintro x H3 ⟨T, k, v, hk, rfl, hT, rfl⟩
    have r3 := rq2.tp e2.tp
    obtain ⟨s, c, l, t, hs, rfl, rfl, et⟩ := RR.at r3 hk
    have et4 : (upd H2 T (.tup [.str s, .ref t])) t = some (.tup [.int c, .int l]) := (Ex.refl.new hT) _ _ et
    refine unpack (s := s) (t := t) upd_same et4 ?_
    refine ⟨rfl, ?_⟩
    simp only [wipe, tSeq, tIfS, tNext, tRet, tRetN, tDrop, tAsg, tC, cVar, tOp, tCB, tCons, tNil, tTup, tLst, tIf, tAnd, tOr, tNot, cTest, cTru, oTru, cAnd, cOr, cNot, cUn, cChain, gName, cTupG, gCons, gNil, gSub, oLt, oLe, oGt, oGe, oIs, oIsNot, oSub, oMul, oFdiv, oMod, oPow, cPar, cPar3, cAug, tDNewK, cCall, cAttr, frzE, List.mem_singleton, List.lookup_cons_self, List.getElem?_cons_zero, List.getElem?_cons_succ, List.set_cons_zero, List.set_cons_succ, Option.some.injEq, reduceCtorEq, if_true, if_false, Bool.true_eq_false, Bool.false_eq_true, decide_eq_true_eq, ite_true, ite_false, ↓reduceIte, List.length_cons, List.length_nil, true_and, and_true, exists_eq_left', exists_eq_left, List.cons.injEq]
    have nDT : D ≠ T := ne_of_none hD2 hT
    have x4 : Ex (upd H1 q (.frz o1 (.dK kq))) (upd H2 T (.tup [.str s, .ref t])) := e2.trans (Ex.refl.new hT)
    have sn := goneR_snoc (ts := ts) hs
    refine eq_scal rfl rfl rfl ?_
    by_cases c1 : l = 1
    · simp only [c1, decide_true, if_true] at sn ⊢
      refine ⟨_, by rw [upd_ne nDT]; exact hD2, ?_, hR _ ⟨?_, ?_⟩⟩
      · have h5 := goneR_len (ts.take j)
        rw [List.length_map]
        rw [List.length_take] at h5
        have h6 : ts.length = rs.length := by
          obtain ⟨ys, hp1, _, rfl⟩ := ht
          unfold ordr; rw [List.length_map, hp1.length_eq, List.length_map]
        exact small1000 (by omega)
      · intro b o eb
        have hb : b ≠ D := fun z => by rw [z, hD] at eb; cases eb
        rw [upd_ne hb]; exact x4 b o eb
      · rw [upd_same, sn]; simp
    · have c2 : decide (V.int l = V.int 1) = false := by simp [c1]
      simp only [c2, c1, if_false, List.append_nil, Bool.false_eq_true] at sn ⊢
      refine hR _ ⟨x4, ?_⟩
      rw [upd_ne nDT, sn]; exact hD2
end
end WR.L

set_option Elab.async false
set_option linter.all false
set_option maxRecDepth 100000
set_option maxHeartbeats 1000000
namespace WR.L
open PySem PySem.Spec PyProof.Rows L2
section
variable {K : PySem.W.Frag} {n : Nat} {H : Hp} {Q : VK} {E : XK}
theorem rget_of {rs : Rws} (nd : (rs.map (·.1)).Nodup) {r : Str × Int × Int} (h : r ∈ rs) : rget rs r.1 = some r.2 := by
  induction rs with
  | nil => cases h
  | cons q rs ih =>
    rw [List.map_cons, List.nodup_cons] at nd
    rcases List.mem_cons.mp h with rfl | h
    · simp [rget]
    · have hne : q.1 ≠ r.1 := fun z => nd.1 (by rw [z]; exact List.mem_map_of_mem h)
      have := ih nd.2 h
      simp only [rget, List.find?_cons, hne, decide_false] at this ⊢
      exact this
def isGone (rs : Rws) (s : Str) : Bool := decide (((rget rs s).getD (0, 0)).2 = 1)
theorem gone_ordr (rs : Rws) (ys : List Str) : goneR (ordr rs ys) = ys.filter (isGone rs) := by
  unfold goneR ordr
  rw [List.filter_map, List.map_map]
  simp only [Function.comp_def, List.map_id']
  rfl
theorem gone_keys {rs : Rws} (nd : (rs.map (·.1)).Nodup) : goneR rs = (rs.map (·.1)).filter (isGone rs) := by
  unfold goneR
  rw [List.filter_map]
  congr 1
  refine List.filter_congr fun r hr => ?_
  simp only [Function.comp_def, isGone, rget_of nd hr, Option.getD_some]
theorem gone_told {rs ts : Rws} {zs : List Str} (nd : (rs.map (·.1)).Nodup) (ht : Told rs ts) (h1 : zs.Perm (goneR rs)) (h2 : sortedS zs = true) : zs = goneR ts := by
  obtain ⟨ys, p1, s1, rfl⟩ := ht
  rw [gone_ordr]
  rw [gone_keys nd] at h1
  exact (srt_filter p1 s1 h1 h2).symm
theorem mem_gone {rs ts : Rws} {s : Str} {c l : Int} (nd : (rs.map (·.1)).Nodup) (ht : Told rs ts) (h : (s, c, l) ∈ rs) : s ∈ goneR ts ↔ l = 1 := by
  obtain ⟨ys, p1, s1, rfl⟩ := ht
  rw [gone_ordr, List.mem_filter]
  have hm : s ∈ ys := p1.mem_iff.mpr (List.mem_map_of_mem (f := (·.1)) h)
  have hg := rget_of nd h
  simp [hm, isGone, hg]
theorem told_ex {rs : Rws} {zs : List Str} (h1 : zs.Perm (rs.map (·.1))) (h2 : sortedS zs = true) : Told rs (ordr rs zs) := ⟨zs, h1, h2, rfl⟩
theorem rput_mid {as bs : Rws} {s : Str} {p q : Int × Int} (h1 : ∀ r ∈ as, r.1 ≠ s) (h2 : ∀ r ∈ bs, r.1 ≠ s) : rput (as ++ (s, q) :: bs) s p = as ++ (s, p) :: bs := by
  unfold rput
  rw [if_pos (by simp)]
  rw [List.map_append, List.map_cons]
  congr 1
  · exact (List.map_congr_left fun r hr => by simp [h1 r hr]).trans (List.map_id' as)
  · simp only [if_true, List.cons.injEq, true_and]
    exact (List.map_congr_left fun r hr => by simp [h2 r hr]).trans (List.map_id' bs)
theorem rdrop_mid {as bs : Rws} {s : Str} {p : Int × Int} (h1 : ∀ r ∈ as, r.1 ≠ s) (h2 : ∀ r ∈ bs, r.1 ≠ s) : rdrop (as ++ (s, p) :: bs) s = as ++ bs := by
  unfold rdrop
  rw [List.filter_append, List.filter_cons]
  simp only [ne_eq, not_true, decide_false, Bool.false_eq_true, if_false]
  rw [List.filter_eq_self.mpr fun r hr => by simp [h1 r hr], List.filter_eq_self.mpr fun r hr => by simp [h2 r hr]]
theorem inV_str {s : Str} : ∀ ss : List Str, inV (.str s) (ss.map V.str) = decide (s ∈ ss)
  | [] => rfl
  | x :: r => by
    have ih := inV_str (s := s) r
    unfold inV at ih ⊢
    rw [List.map_cons, List.any_cons, ih]
    by_cases e : s = x
    · subst e; simp [eqV]
    · have e' : x ≠ s := fun z => e z.symm
      simp [eqV, e, e']
theorem flat_strs (ss : List Str) : (ss.map V.str).all flatV = true := by
  rw [List.all_map, List.all_eq_true]
  intro x hx
  rfl
theorem ltCps_as : ∀ l m : List Nat, ltCps l m = true → ltCps m l = false
  | [], [], h => by simp [ltCps] at h
  | [], _ :: _, _ => rfl
  | _ :: _, [], h => by simp [ltCps] at h
  | a :: r, b :: t, h => by
    simp only [ltCps, Bool.or_eq_true, decide_eq_true_eq, Bool.and_eq_true, beq_iff_eq] at h
    simp only [ltCps, Bool.or_eq_false_iff, decide_eq_false_iff_not, Bool.and_eq_false_iff, beq_eq_false_iff_ne]
    rcases h with h | ⟨h, k⟩
    · exact ⟨by omega, .inl (by omega)⟩
    · exact ⟨by omega, .inr (ltCps_as r t k)⟩
theorem keys_drop {rs : Rws} {j : Nat} {s : Str} {c l : Int} (nd : (rs.map (·.1)).Nodup) (h : rs[j]? = some (s, c, l)) : rs.drop j = (s, c, l) :: rs.drop (j + 1) ∧ ∀ r ∈ rs.drop (j + 1), r.1 ≠ s := by
  have hj := (List.getElem?_eq_some_iff.mp h).1
  have e1 : rs.drop j = (s, c, l) :: rs.drop (j + 1) := by
    rw [List.drop_eq_getElem_cons hj, (List.getElem?_eq_some_iff.mp h).2]
  refine ⟨e1, fun r hr e => ?_⟩
  have : ((rs.drop j).map (·.1)).Nodup := by
    have h2 := List.drop_sublist j (rs.map (·.1))
    rw [List.map_drop]
    exact nd.sublist h2
  rw [e1, List.map_cons, List.nodup_cons] at this
  exact this.1 (List.mem_map.mpr ⟨r, hr, e⟩)
theorem s_law_turned {d : Addr} {rs : Rws} (W : RAt H d rs) (hl : rs.length < 64) (nd : (rs.map (·.1)).Nodup) (pos : ∀ r ∈ rs, 1 ≤ r.2.2)
    (h : ∀ ts g H', Told rs ts → H' g = some (.lst ((goneR ts).map V.str)) → RAt H' d (turnR rs) → Exd d H H' → H g = none → Q (.ref g) H') : SP K (n+1) "_law_turned" [.ref d] H Q E := by
  refine o__law_turned ?_
  unfold r__law_turned
  obtain ⟨kvs, hd, r⟩ := W
  refine seq_ fun N1 h1 => ?_
  simp only [tAsg, tCB, tCons]
  refine .inr ⟨d, .dK kvs, hd, trivial, fun od => ?_⟩
  simp only [cLc, cIter, frzE, upd_same, tSeq, tIfS, tNext, tRet, tRetN, tDrop, tAsg, tC, cVar, tOp, tCB, tCons, tNil, tTup, tLst, tIf, tAnd, tOr, tNot, cTest, cTru, oTru, cAnd, cOr, cNot, cUn, cChain, gName, cTupG, gCons, gNil, gSub, oLt, oLe, oGt, oGe, oIs, oIsNot, oSub, oMul, oFdiv, oMod, oPow, cPar, cPar3, cAug, tDNewK, cCall, cAttr, frzE, List.mem_singleton, List.lookup_cons_self, List.getElem?_cons_zero, List.getElem?_cons_succ, List.set_cons_zero, List.set_cons_succ, Option.some.injEq, reduceCtorEq, if_true, if_false, Bool.true_eq_false, Bool.false_eq_true, decide_eq_true_eq, ite_true, ite_false, ↓reduceIte, List.length_cons, List.length_nil, true_and, and_true, exists_eq_left', exists_eq_left, List.cons.injEq]
  have lk : look K (upd H d (.frz od (.dK kvs))) d = some (.dK kvs) := by unfold look; rw [upd_same]
  simp only [lk, upd_same]
  intro D hD
  have ndD : d ≠ D := fun z => by rw [← z, upd_same] at hD; cases hD
  have hDH : H D = none := by rw [upd_ne ndD.symm] at hD; exact hD
  have r1 : RR (upd H d (.frz od (.dK kvs))) kvs rs := r.tp fun t xs e => by
    rw [upd_ne (fun z => by rw [z, hd] at e; cases e)]; exact e
  refine lpc_inv (n := rs.length) (fun j H' => Ex (upd H d (.frz od (.dK kvs))) H' ∧ H' D = some (.lst ((goneR (rs.take j)).map V.str))) ?_ ?_ ⟨Ex.refl.new hD, by rw [upd_same]; rfl⟩
  · rintro H2 ⟨e2, hD2⟩
    have ed2 := e2 d _ upd_same
    refine ⟨⟨ed2, by rw [r.len]; exact Nat.le_refl _⟩, ed2, ?_⟩
    rw [List.take_length] at hD2
    have e02 : Ex H (upd H2 d (.dK kvs)) := fun b o eb => by
      by_cases hb : b = d
      · subst hb; rw [hd] at eb; cases eb; exact upd_same
      · rw [upd_ne hb]; exact e2 b o (by rw [upd_ne hb]; exact eb)
    have hD3 : (upd H2 d (.dK kvs)) D = some (.lst ((goneR rs).map V.str)) := by rw [upd_ne ndD.symm]; exact hD2
    simp only [bSorted, look_of_lst hD3, allStr_map]
    refine ⟨Nat.lt_of_le_of_lt (goneR_len rs) hl, fun zs p1 s1 g hg => ?_⟩
    obtain ⟨ys, py, sy⟩ : ∃ ys : List Str, ys.Perm (rs.map (·.1)) ∧ sortedS ys = true := by
      refine ⟨(rs.map (·.1)).mergeSort (fun a b => !ltCps b.cps.toList a.cps.toList), List.mergeSort_perm _ _, sortedS_of_pairwise _ ?_⟩
      have := List.pairwise_mergeSort (le := fun a b : Str => !ltCps b.cps.toList a.cps.toList) (fun a b c h1 h2 => by
        simp only [Bool.not_eq_true'] at h1 h2 ⊢
        exact ltCps_trans _ _ _ h1 h2) (fun a b => by
        cases e : ltCps b.cps.toList a.cps.toList with
        | false => rfl
        | true =>
          cases e' : ltCps a.cps.toList b.cps.toList with
          | false => rfl
          | true => rw [ltCps_as _ _ e] at e'; cases e') (rs.map (·.1))
      exact this.imp fun h => by simpa using h
    have ht := told_ex py sy
    have ez := gone_told nd ht p1 s1
    subst ez
    try simp only [tSeq, tIfS, tNext, tRet, tRetN, tDrop, tAsg, tC, cVar, tOp, tCB, tCons, tNil, tTup, tLst, tIf, tAnd, tOr, tNot, cTest, cTru, oTru, cAnd, cOr, cNot, cUn, cChain, gName, cTupG, gCons, gNil, gSub, oLt, oLe, oGt, oGe, oIs, oIsNot, oSub, oMul, oFdiv, oMod, oPow, cPar, cPar3, cAug, tDNewK, cCall, cAttr, frzE, List.mem_singleton, List.lookup_cons_self, List.getElem?_cons_zero, List.getElem?_cons_succ, List.set_cons_zero, List.set_cons_succ, Option.some.injEq, reduceCtorEq, if_true, if_false, Bool.true_eq_false, Bool.false_eq_true, decide_eq_true_eq, ite_true, ite_false, ↓reduceIte, List.length_cons, List.length_nil, true_and, and_true, exists_eq_left', exists_eq_left, List.cons.injEq]
    refine h1 _ _ (seq_ fun N2 h2 => .inl ?_)
    have hgH : H g = none := e02.none hg
    have x3 : Ex H (upd (upd H2 d (.dK kvs)) g (.lst ((goneR (ordr rs ys)).map V.str))) := e02.new hgH
    have hg3 : (upd (upd H2 d (.dK kvs)) g (.lst ((goneR (ordr rs ys)).map V.str))) g = some (.lst ((goneR (ordr rs ys)).map V.str)) := upd_same
    generalize upd (upd H2 d (.dK kvs)) g (.lst ((goneR (ordr rs ys)).map V.str)) = H3 at x3 hg3 ⊢
    have hd3 := x3 _ _ hd
    simp only [cFor, cIter, frzE, tSeq, tIfS, tNext, tRet, tRetN, tDrop, tAsg, tC, cVar, tOp, tCB, tCons, tNil, tTup, tLst, tIf, tAnd, tOr, tNot, cTest, cTru, oTru, cAnd, cOr, cNot, cUn, cChain, gName, cTupG, gCons, gNil, gSub, oLt, oLe, oGt, oGe, oIs, oIsNot, oSub, oMul, oFdiv, oMod, oPow, cPar, cPar3, cAug, tDNewK, cCall, cAttr, frzE, List.mem_singleton, List.lookup_cons_self, List.getElem?_cons_zero, List.getElem?_cons_succ, List.set_cons_zero, List.set_cons_succ, Option.some.injEq, reduceCtorEq, if_true, if_false, Bool.true_eq_false, Bool.false_eq_true, decide_eq_true_eq, ite_true, ite_false, ↓reduceIte, List.length_cons, List.length_nil, true_and, and_true, exists_eq_left', exists_eq_left, List.cons.injEq]
    simp only [bList, look_of_dK hd3]
    intro l hl3
    simp only [upd_same, look_of_lst upd_same]
    have ndl : d ≠ l := ne_of_none hd3 hl3
    have ngl : g ≠ l := ne_of_none hg3 hl3
    have hlH : H l = none := x3.none hl3
    have ndg : d ≠ g := fun z => by rw [z, hg3] at hd3; cases hd3
    refine lp_inv (n := rs.length) (fun j σ H' => (∃ v, σ = [some (.ref d), some (.ref g), v]) ∧ Exd d H H' ∧ H' g = some (.lst ((goneR (ordr rs ys)).map V.str)) ∧ H' l = some (.lst ((rs.map (·.1)).map V.str)) ∧ RAt H' d (turnR (rs.take j) ++ rs.drop j)) ?_ ?_ ⟨⟨_, rfl⟩, ?_, ?_, ?_, kvs, ?_, ?_⟩
    · rintro σ H' ⟨⟨v, rfl⟩, x4, hg4, hl4, W4⟩
      refine ⟨itl_stop hl4 (by simp), h2 _ _ ?_⟩
      try simp only [tSeq, tIfS, tNext, tRet, tRetN, tDrop, tAsg, tC, cVar, tOp, tCB, tCons, tNil, tTup, tLst, tIf, tAnd, tOr, tNot, cTest, cTru, oTru, cAnd, cOr, cNot, cUn, cChain, gName, cTupG, gCons, gNil, gSub, oLt, oLe, oGt, oGe, oIs, oIsNot, oSub, oMul, oFdiv, oMod, oPow, cPar, cPar3, cAug, tDNewK, cCall, cAttr, frzE, List.mem_singleton, List.lookup_cons_self, List.getElem?_cons_zero, List.getElem?_cons_succ, List.set_cons_zero, List.set_cons_succ, Option.some.injEq, reduceCtorEq, if_true, if_false, Bool.true_eq_false, Bool.false_eq_true, decide_eq_true_eq, ite_true, ite_false, ↓reduceIte, List.length_cons, List.length_nil, true_and, and_true, exists_eq_left', exists_eq_left, List.cons.injEq]
      rw [List.take_length, List.drop_length, List.append_nil] at W4
      exact h _ g H' ht hg4 W4 x4 hgH
    · rintro j σ H' hj ⟨⟨v, rfl⟩, x4, hg4, hl4, kv4, hd4, r4⟩ R hR
      refine ⟨itl_go hl4 (by simpa using hj), ?_⟩
      intro x H5 hy
      obtain ⟨rfl, hx⟩ := itl_yld hl4 hy
      rw [List.getElem?_map, List.getElem?_map] at hx
      obtain ⟨⟨s, c, q⟩, hs⟩ : ∃ r, rs[j]? = some r := ⟨rs[j], by simp [hj]⟩
      rw [hs] at hx
      obtain rfl : V.str s = x := Option.some.inj hx
      obtain ⟨ed, hdr⟩ := keys_drop nd hs
      have hnew := turnR_new nd hs
      rw [ed] at r4
      have hget : rget (turnR (rs.take j) ++ (s, c, q) :: rs.drop (j + 1)) s = some (c, q) := by
        unfold rget
        rw [List.find?_append, List.find?_eq_none.mpr (fun r hr => by simp [hnew r hr])]
        simp
      refine seq_ fun N3 h3 => ?_
      try simp only [tSeq, tIfS, tNext, tRet, tRetN, tDrop, tAsg, tC, cVar, tOp, tCB, tCons, tNil, tTup, tLst, tIf, tAnd, tOr, tNot, cTest, cTru, oTru, cAnd, cOr, cNot, cUn, cChain, gName, cTupG, gCons, gNil, gSub, oLt, oLe, oGt, oGe, oIs, oIsNot, oSub, oMul, oFdiv, oMod, oPow, cPar, cPar3, cAug, tDNewK, cCall, cAttr, frzE, List.mem_singleton, List.lookup_cons_self, List.getElem?_cons_zero, List.getElem?_cons_succ, List.set_cons_zero, List.set_cons_succ, Option.some.injEq, reduceCtorEq, if_true, if_false, Bool.true_eq_false, Bool.false_eq_true, decide_eq_true_eq, ite_true, ite_false, ↓reduceIte, List.length_cons, List.length_nil, true_and, and_true, exists_eq_left', exists_eq_left, List.cons.injEq]
      rcases r4.get s with ⟨_, b⟩ | ⟨t, c', q', a, b, et⟩
      · rw [hget] at b; cases b
      rw [hget] at b
      cases b
      rw [ix_dS hd4 a, ix_tup (look_of_tup et) (v := .int c) rfl]
      try simp only [tSeq, tIfS, tNext, tRet, tRetN, tDrop, tAsg, tC, cVar, tOp, tCB, tCons, tNil, tTup, tLst, tIf, tAnd, tOr, tNot, cTest, cTru, oTru, cAnd, cOr, cNot, cUn, cChain, gName, cTupG, gCons, gNil, gSub, oLt, oLe, oGt, oGe, oIs, oIsNot, oSub, oMul, oFdiv, oMod, oPow, cPar, cPar3, cAug, tDNewK, cCall, cAttr, frzE, List.mem_singleton, List.lookup_cons_self, List.getElem?_cons_zero, List.getElem?_cons_succ, List.set_cons_zero, List.set_cons_succ, Option.some.injEq, reduceCtorEq, if_true, if_false, Bool.true_eq_false, Bool.false_eq_true, decide_eq_true_eq, ite_true, ite_false, ↓reduceIte, List.length_cons, List.length_nil, true_and, and_true, exists_eq_left', exists_eq_left, List.cons.injEq]
      rw [ix_dS hd4 a, ix_tup (look_of_tup et) (v := .int q) rfl]
      try simp only [tSeq, tIfS, tNext, tRet, tRetN, tDrop, tAsg, tC, cVar, tOp, tCB, tCons, tNil, tTup, tLst, tIf, tAnd, tOr, tNot, cTest, cTru, oTru, cAnd, cOr, cNot, cUn, cChain, gName, cTupG, gCons, gNil, gSub, oLt, oLe, oGt, oGe, oIs, oIsNot, oSub, oMul, oFdiv, oMod, oPow, cPar, cPar3, cAug, tDNewK, cCall, cAttr, frzE, List.mem_singleton, List.lookup_cons_self, List.getElem?_cons_zero, List.getElem?_cons_succ, List.set_cons_zero, List.set_cons_succ, Option.some.injEq, reduceCtorEq, if_true, if_false, Bool.true_eq_false, Bool.false_eq_true, decide_eq_true_eq, ite_true, ite_false, ↓reduceIte, List.length_cons, List.length_nil, true_and, and_true, exists_eq_left', exists_eq_left, List.cons.injEq]
      refine ⟨by simp only [sizeLine_eq]; omega, fun u hu => ?_⟩
      have ndu : d ≠ u := ne_of_none hd4 hu
      have ngu : g ≠ u := ne_of_none hg4 hu
      have nlu : l ≠ u := ne_of_none hl4 hu
      have hd5 : (upd H5 u (.tup [.int c, .int (q - 1)])) d = some (.dK kv4) := by rw [upd_ne ndu]; exact hd4
      have hlen : kv4.length < 1000 := by
        rw [r4.len, List.length_append]
        have := turnR_len (rs.take j)
        rw [List.length_take] at this
        rw [← ed, List.length_drop]
        omega
      refine set_dS hd5 hlen (h3 _ _ ?_)
      have r5 := RR.put (n := s) (t := u) (c := c) (l := q - 1) (H := upd H5 u (.tup [.int c, .int (q - 1)])) upd_same (r4.tp (Ex.refl.new hu).tp)
      rw [rput_mid hnew hdr] at r5
      have huH : H u = none := by
        cases e : H u with
        | none => rfl
        | some o =>
          have := x4 u o ndu.symm e
          rw [hu] at this; cases this
      have x6 : Exd d H (upd (upd H5 u (.tup [.int c, .int (q - 1)])) d (.dK (putK kv4 (.inr s) (.ref u)))) := fun b o hb eb => by
        rw [upd_ne hb, upd_ne (ne_of_none eb huH)]; exact x4 b o hb eb
      have hg6 : (upd (upd H5 u (.tup [.int c, .int (q - 1)])) d (.dK (putK kv4 (.inr s) (.ref u)))) g = some (.lst ((goneR (ordr rs ys)).map V.str)) := by rw [upd_ne ndg.symm, upd_ne ngu]; exact hg4
      have hl6 : (upd (upd H5 u (.tup [.int c, .int (q - 1)])) d (.dK (putK kv4 (.inr s) (.ref u)))) l = some (.lst ((rs.map (·.1)).map V.str)) := by rw [upd_ne ndl.symm, upd_ne nlu]; exact hl4
      have r6 : RR (upd (upd H5 u (.tup [.int c, .int (q - 1)])) d (.dK (putK kv4 (.inr s) (.ref u)))) (putK kv4 (.inr s) (.ref u)) (turnR (rs.take j) ++ (s, c, q - 1) :: rs.drop (j + 1)) := r5.tp fun b xs eb => by
        rw [upd_ne (fun z => by rw [z, hd5] at eb; cases eb)]; exact eb
      try simp only [tSeq, tIfS, tNext, tRet, tRetN, tDrop, tAsg, tC, cVar, tOp, tCB, tCons, tNil, tTup, tLst, tIf, tAnd, tOr, tNot, cTest, cTru, oTru, cAnd, cOr, cNot, cUn, cChain, gName, cTupG, gCons, gNil, gSub, oLt, oLe, oGt, oGe, oIs, oIsNot, oSub, oMul, oFdiv, oMod, oPow, cPar, cPar3, cAug, tDNewK, cCall, cAttr, frzE, List.mem_singleton, List.lookup_cons_self, List.getElem?_cons_zero, List.getElem?_cons_succ, List.set_cons_zero, List.set_cons_succ, Option.some.injEq, reduceCtorEq, if_true, if_false, Bool.true_eq_false, Bool.false_eq_true, decide_eq_true_eq, ite_true, ite_false, ↓reduceIte, List.length_cons, List.length_nil, true_and, and_true, exists_eq_left', exists_eq_left, List.cons.injEq]
      simp only [oIn, look_of_lst hg6]
      refine .inl ⟨rfl, flat_strs _, ?_⟩
      rw [inV_str]
      have hmem := mem_gone nd ht (List.mem_of_getElem? hs)
      have sn := turnR_snoc hs
      have hq : 1 ≤ q := pos _ (List.mem_of_getElem? hs)
      by_cases c1 : q = 1
      · have hm2 : s ∈ goneR (ordr rs ys) := hmem.mpr c1
        simp only [hm2, decide_true, Bool.false_bne, Bool.false_xor, if_true, tSeq, tIfS, tNext, tRet, tRetN, tDrop, tAsg, tC, cVar, tOp, tCB, tCons, tNil, tTup, tLst, tIf, tAnd, tOr, tNot, cTest, cTru, oTru, cAnd, cOr, cNot, cUn, cChain, gName, cTupG, gCons, gNil, gSub, oLt, oLe, oGt, oGe, oIs, oIsNot, oSub, oMul, oFdiv, oMod, oPow, cPar, cPar3, cAug, tDNewK, cCall, cAttr, frzE, List.mem_singleton, List.lookup_cons_self, List.getElem?_cons_zero, List.getElem?_cons_succ, List.set_cons_zero, List.set_cons_succ, Option.some.injEq, reduceCtorEq, if_true, if_false, Bool.true_eq_false, Bool.false_eq_true, decide_eq_true_eq, ite_true, ite_false, ↓reduceIte, List.length_cons, List.length_nil, true_and, and_true, exists_eq_left', exists_eq_left, List.cons.injEq]
        refine mC_blt ?_ fun P P' hh q => mono_var hh q
        try simp only [tSeq, tIfS, tNext, tRet, tRetN, tDrop, tAsg, tC, cVar, tOp, tCB, tCons, tNil, tTup, tLst, tIf, tAnd, tOr, tNot, cTest, cTru, oTru, cAnd, cOr, cNot, cUn, cChain, gName, cTupG, gCons, gNil, gSub, oLt, oLe, oGt, oGe, oIs, oIsNot, oSub, oMul, oFdiv, oMod, oPow, cPar, cPar3, cAug, tDNewK, cCall, cAttr, frzE, List.mem_singleton, List.lookup_cons_self, List.getElem?_cons_zero, List.getElem?_cons_succ, List.set_cons_zero, List.set_cons_succ, Option.some.injEq, reduceCtorEq, if_true, if_false, Bool.true_eq_false, Bool.false_eq_true, decide_eq_true_eq, ite_true, ite_false, ↓reduceIte, List.length_cons, List.length_nil, true_and, and_true, exists_eq_left', exists_eq_left, List.cons.injEq]
        have e6 : look K (upd (upd H5 u (.tup [.int c, .int (q - 1)])) d (.dK (putK kv4 (.inr s) (.ref u)))) d = some (.dK (putK kv4 (.inr s) (.ref u))) := look_of_dK upd_same
        refine ⟨ins_dK (K := K) e6, "dict", tyB_dK (K := K) upd_same, _, b_pop, ?_⟩
        simp only [mPopD, upd_same, keyOf, tSeq, tIfS, tNext, tRet, tRetN, tDrop, tAsg, tC, cVar, tOp, tCB, tCons, tNil, tTup, tLst, tIf, tAnd, tOr, tNot, cTest, cTru, oTru, cAnd, cOr, cNot, cUn, cChain, gName, cTupG, gCons, gNil, gSub, oLt, oLe, oGt, oGe, oIs, oIsNot, oSub, oMul, oFdiv, oMod, oPow, cPar, cPar3, cAug, tDNewK, cCall, cAttr, frzE, List.mem_singleton, List.lookup_cons_self, List.getElem?_cons_zero, List.getElem?_cons_succ, List.set_cons_zero, List.set_cons_succ, Option.some.injEq, reduceCtorEq, if_true, if_false, Bool.true_eq_false, Bool.false_eq_true, decide_eq_true_eq, ite_true, ite_false, ↓reduceIte, List.length_cons, List.length_nil, true_and, and_true, exists_eq_left', exists_eq_left, List.cons.injEq]
        have hv : valV (putK kv4 (Sum.inr s : Key) (V.ref u)) (Sum.inr s) = some (.ref u) := by rw [valV_put]; simp
        rw [hv]
        refine hR _ _ ⟨⟨_, rfl⟩, ?_, ?_, ?_, _, upd_same, ?_⟩
        · intro b o hb eb
          rw [upd_ne hb]; exact x6 b o hb eb
        · rw [upd_ne ndg.symm]; exact hg6
        · rw [upd_ne ndl.symm]; exact hl6
        · have r7 := RR.drop s r6
          rw [rdrop_mid hnew hdr] at r7
          have e7 : turnR (rs.take (j + 1)) = turnR (rs.take j) := by rw [sn]; simp [c1]
          rw [e7]
          exact r7.tp fun b xs eb => by
            rw [upd_ne (fun z => by rw [z, upd_same] at eb; cases eb)]; exact eb
      · have hm2 : s ∉ goneR (ordr rs ys) := fun z => c1 (hmem.mp z)
        simp only [hm2, decide_false, Bool.false_bne, Bool.false_xor, Bool.false_eq_true, if_false, tSeq, tIfS, tNext, tRet, tRetN, tDrop, tAsg, tC, cVar, tOp, tCB, tCons, tNil, tTup, tLst, tIf, tAnd, tOr, tNot, cTest, cTru, oTru, cAnd, cOr, cNot, cUn, cChain, gName, cTupG, gCons, gNil, gSub, oLt, oLe, oGt, oGe, oIs, oIsNot, oSub, oMul, oFdiv, oMod, oPow, cPar, cPar3, cAug, tDNewK, cCall, cAttr, frzE, List.mem_singleton, List.lookup_cons_self, List.getElem?_cons_zero, List.getElem?_cons_succ, List.set_cons_zero, List.set_cons_succ, Option.some.injEq, reduceCtorEq, if_true, if_false, Bool.true_eq_false, Bool.false_eq_true, decide_eq_true_eq, ite_true, ite_false, ↓reduceIte, List.length_cons, List.length_nil, true_and, and_true, exists_eq_left', exists_eq_left, List.cons.injEq]
        refine hR _ _ ⟨⟨_, rfl⟩, x6, hg6, hl6, _, upd_same, ?_⟩
        have c2 : 1 < q := by omega
        simp only [c2, if_true] at sn
        rw [sn, List.append_assoc]
        exact r6
    · intro b o hb eb
      rw [upd_ne (ne_of_none eb hlH)]; exact x3 b o eb
    · rw [upd_ne ngl]; exact hg3
    · rw [upd_same, kvs_strs r]
    · rw [upd_ne ndl]; exact hd3
    · exact (r.tp x3.tp).tp (Ex.refl.new hl3).tp
  · rintro j H2 hj ⟨e2, hD2⟩ R hR
    have ed2 := e2 d _ upd_same
    refine ⟨⟨ed2, by rw [r.len]; exact hj⟩, ?_⟩
    rintro x H3 ⟨rfl, k, v, hk, rfl⟩
    have r3 := r1.tp e2.tp
    obtain ⟨s, c, q, t, hs, rfl, rfl, et⟩ := RR.at r3 hk
    refine ⟨rfl, ?_⟩
    have hget := rget_of nd (List.mem_of_getElem? hs)
    rcases r3.get s with ⟨_, b⟩ | ⟨t', c', q', a, b, et'⟩
    · rw [hget] at b; cases b
    rw [hget] at b
    cases b
    simp only [wipe, kV, tSeq, tIfS, tNext, tRet, tRetN, tDrop, tAsg, tC, cVar, tOp, tCB, tCons, tNil, tTup, tLst, tIf, tAnd, tOr, tNot, cTest, cTru, oTru, cAnd, cOr, cNot, cUn, cChain, gName, cTupG, gCons, gNil, gSub, oLt, oLe, oGt, oGe, oIs, oIsNot, oSub, oMul, oFdiv, oMod, oPow, cPar, cPar3, cAug, tDNewK, cCall, cAttr, frzE, List.mem_singleton, List.lookup_cons_self, List.getElem?_cons_zero, List.getElem?_cons_succ, List.set_cons_zero, List.set_cons_succ, Option.some.injEq, reduceCtorEq, if_true, if_false, Bool.true_eq_false, Bool.false_eq_true, decide_eq_true_eq, ite_true, ite_false, ↓reduceIte, List.length_cons, List.length_nil, true_and, and_true, exists_eq_left', exists_eq_left, List.cons.injEq]
    rw [ix_dSf ed2 a, ix_tup (look_of_tup et') (v := .int q) rfl]
    have sn := goneR_snoc (ts := rs) hs
    refine eq_scal rfl rfl rfl ?_
    by_cases c1 : q = 1
    · simp only [c1, decide_true, if_true] at sn ⊢
      refine ⟨_, hD2, ?_, hR _ ⟨?_, ?_⟩⟩
      · have h5 := goneR_len (rs.take j)
        rw [List.length_map]
        rw [List.length_take] at h5
        exact small1000 (by omega)
      · intro b o eb
        have hb : b ≠ D := fun z => by rw [z, hD] at eb; cases eb
        rw [upd_ne hb]; exact e2 b o eb
      · rw [upd_same, sn]; simp
    · have c2 : decide (V.int q = V.int 1) = false := by simp [c1]
      simp only [c2, c1, if_false, List.append_nil, Bool.false_eq_true] at sn ⊢
      refine hR _ ⟨e2, ?_⟩
      rw [sn]; exact hD2
end
end WR.L

set_option Elab.async false
set_option linter.all false
set_option maxRecDepth 100000
set_option maxHeartbeats 1000000
namespace WR.L
open PySem PySem.Spec PyProof.Rows L2
section
variable {K : PySem.W.Frag} {n : Nat} {H : Hp} {Q : VK} {E : XK}
theorem log_small {a : Nat} (h : a < 2 ^ 64) : a.log2 < 64 := by
  by_cases z : a = 0
  · subst z; decide
  · exact (Nat.log2_lt z).mpr h
theorem cmul_of {a b : Int} (ha : a.natAbs < 2 ^ 64) (hb : b.natAbs < 2 ^ 64) : CMulW a b := by
  unfold CMulW
  have := log_small ha
  have := log_small hb
  omega
theorem mod_b {a : Int} {m : Int} (hm : 0 < m) : 0 ≤ a % m ∧ a % m < m := ⟨Int.emod_nonneg _ (by omega), Int.emod_lt_of_pos _ hm⟩
theorem ifS_ {c : TT} {t u : TS} {D : Ends} {σ : L2.St} {H : Hp} (h : ∀ A B : Hp → Prop, (∀ H, t D σ H → A H) → (∀ H, u D σ H → B H) → c σ H fun b H1 => if b = true then A H1 else B H1) : tIfS c t u D σ H := h _ _ (fun _ q => q) fun _ q => q
theorem itr_yld {lo : Int} {N i : Nat} {x : V} {H' : Hp} (h : (Itr lo N).yld i H x H') : H' = H ∧ x = .int (lo + i) := h
theorem s_law_row {cell : Int} (h : ∀ (ns : List Int) l H', ns.length = 24 → Ex H H' → H' l = some (.lst (ns.map V.int)) → H l = none → Q (.ref l) H') : SP K (n+1) "_law_row" [.int cell, .int 24, .int 7] H Q E := by
  refine o__law_row ?_
  unfold r__law_row
  refine seq_ fun N1 h1 => ?_
  try simp only [tSeq, tIfS, tNext, tRet, tRetN, tDrop, tAsg, tC, cVar, tOp, tCB, tCons, tNil, tTup, tLst, tIf, tAnd, tOr, tNot, cTest, cTru, oTru, cAnd, cOr, cNot, cUn, cChain, gName, cTupG, gCons, gNil, gSub, oLt, oLe, oGt, oGe, oIs, oIsNot, oSub, oMul, oFdiv, oMod, oPow, cPar, cPar3, cAug, tDNewK, cCall, cAttr, frzE, List.mem_singleton, List.lookup_cons_self, List.getElem?_cons_zero, List.getElem?_cons_succ, List.set_cons_zero, List.set_cons_succ, Option.some.injEq, reduceCtorEq, if_true, if_false, Bool.true_eq_false, Bool.false_eq_true, decide_eq_true_eq, ite_true, ite_false, ↓reduceIte, List.length_cons, List.length_nil, true_and, and_true, exists_eq_left', exists_eq_left, List.cons.injEq]
  refine ⟨by simp only [sizeLine_eq]; omega, fun l hl => h1 _ _ (seq_ fun N2 h2 => ?_)⟩
  try simp only [tSeq, tIfS, tNext, tRet, tRetN, tDrop, tAsg, tC, cVar, tOp, tCB, tCons, tNil, tTup, tLst, tIf, tAnd, tOr, tNot, cTest, cTru, oTru, cAnd, cOr, cNot, cUn, cChain, gName, cTupG, gCons, gNil, gSub, oLt, oLe, oGt, oGe, oIs, oIsNot, oSub, oMul, oFdiv, oMod, oPow, cPar, cPar3, cAug, tDNewK, cCall, cAttr, frzE, List.mem_singleton, List.lookup_cons_self, List.getElem?_cons_zero, List.getElem?_cons_succ, List.set_cons_zero, List.set_cons_succ, Option.some.injEq, reduceCtorEq, if_true, if_false, Bool.true_eq_false, Bool.false_eq_true, decide_eq_true_eq, ite_true, ite_false, ↓reduceIte, List.length_cons, List.length_nil, true_and, and_true, exists_eq_left', exists_eq_left, List.cons.injEq]
  refine h2 _ _ (seq_ fun N3 h3 => ?_)
  have go : ∀ rest : Int, N3 [some (.int cell), some (.int 24), some (.int 7), some (.ref l), some (.int rest), none, none] (upd H l (.lst [])) := by
    intro rest
    refine h3 _ _ (seq_ fun N4 h4 => .inl ?_)
    simp only [cFor, cRng1, tSeq, tIfS, tNext, tRet, tRetN, tDrop, tAsg, tC, cVar, tOp, tCB, tCons, tNil, tTup, tLst, tIf, tAnd, tOr, tNot, cTest, cTru, oTru, cAnd, cOr, cNot, cUn, cChain, gName, cTupG, gCons, gNil, gSub, oLt, oLe, oGt, oGe, oIs, oIsNot, oSub, oMul, oFdiv, oMod, oPow, cPar, cPar3, cAug, tDNewK, cCall, cAttr, frzE, List.mem_singleton, List.lookup_cons_self, List.getElem?_cons_zero, List.getElem?_cons_succ, List.set_cons_zero, List.set_cons_succ, Option.some.injEq, reduceCtorEq, if_true, if_false, Bool.true_eq_false, Bool.false_eq_true, decide_eq_true_eq, ite_true, ite_false, ↓reduceIte, List.length_cons, List.length_nil, true_and, and_true, exists_eq_left', exists_eq_left, List.cons.injEq]
    refine ⟨by decide, ?_⟩
    refine lp_inv (n := 24) (fun j σ H' => (∃ r v6, ∃ v5, σ = [some (.int cell), some (.int 24), some (.int 7), some (.ref l), some (.int r), v5, v6]) ∧ Ex H H' ∧ ∃ ns : List Int, ns.length = j ∧ H' l = some (.lst (ns.map V.int))) ?_ ?_ ⟨⟨_, _, _, rfl⟩, Ex.refl.new hl, [], rfl, upd_same⟩
    · rintro σ H' ⟨⟨r, v6, v5, rfl⟩, e1, ns, hn, el⟩
      refine ⟨Nat.le_refl _, h4 _ _ ?_⟩
      try simp only [tSeq, tIfS, tNext, tRet, tRetN, tDrop, tAsg, tC, cVar, tOp, tCB, tCons, tNil, tTup, tLst, tIf, tAnd, tOr, tNot, cTest, cTru, oTru, cAnd, cOr, cNot, cUn, cChain, gName, cTupG, gCons, gNil, gSub, oLt, oLe, oGt, oGe, oIs, oIsNot, oSub, oMul, oFdiv, oMod, oPow, cPar, cPar3, cAug, tDNewK, cCall, cAttr, frzE, List.mem_singleton, List.lookup_cons_self, List.getElem?_cons_zero, List.getElem?_cons_succ, List.set_cons_zero, List.set_cons_succ, Option.some.injEq, reduceCtorEq, if_true, if_false, Bool.true_eq_false, Bool.false_eq_true, decide_eq_true_eq, ite_true, ite_false, ↓reduceIte, List.length_cons, List.length_nil, true_and, and_true, exists_eq_left', exists_eq_left, List.cons.injEq]
      exact h ns l H' hn e1 el hl
    · rintro j σ H' hj ⟨⟨r, v6, v5, rfl⟩, e1, ns, hn, el⟩ R hR
      refine ⟨hj, ?_⟩
      rintro x H2 ⟨rfl, rfl⟩
      have e0 : (0 + (j : Int)) = (j : Int) := by omega
      rw [e0]
      have app : ∀ (z : Int) (σ : L2.St) (t tk : TA) (W : WX) (Q' : V → Hp → Prop), σ[3]? = some (some (.ref l)) → (∀ P, P [.int z] H2 → t σ H2 P) → (∀ H4, Ex H H4 → H4 l = some (.lst ((ns ++ [z]).map V.int)) → Q' .non H4) →
          mC (gg K (SP K n)) "append" 1 0 [] (cVar 3) t tk W σ H2 Q' := by
        intro z σ t tk W Q' hσ ht hq
        refine mC_blt ?_ fun P P' hh q => mono_var hh q
        simp only [cVar, hσ]
        refine ⟨ins_lst (K := K) (look_of_lst el), "list", tyB_lst (K := K) (look_of_lst el), _, b_append, ht _ ?_⟩
        simp only [mAppend, el]
        refine ⟨by rw [List.length_map]; exact small1000 (by omega), hq _ (fun b o eb => ?_) ?_⟩
        · rw [upd_ne (ne_of_none eb hl)]; exact e1 b o eb
        · rw [upd_same]; simp
      have nx : ∀ (r' : Int) v6' (z : Int) H4, Ex H H4 → H4 l = some (.lst ((ns ++ [z]).map V.int)) → R [some (.int cell), some (.int 24), some (.int 7), some (.ref l), some (.int r'), some (.int j), v6'] H4 :=
        fun r' v6' z H4 e4 el4 => hR _ _ ⟨⟨_, _, _, rfl⟩, e4, ns ++ [z], by rw [List.length_append, hn]; rfl, el4⟩
      have m1 := mod_b (a := cell) (m := 2147483629) (by decide)
      refine ifS_ fun A B hA hB => ?_
      try simp only [tSeq, tIfS, tNext, tRet, tRetN, tDrop, tAsg, tC, cVar, tOp, tCB, tCons, tNil, tTup, tLst, tIf, tAnd, tOr, tNot, cTest, cTru, oTru, cAnd, cOr, cNot, cUn, cChain, gName, cTupG, gCons, gNil, gSub, oLt, oLe, oGt, oGe, oIs, oIsNot, oSub, oMul, oFdiv, oMod, oPow, cPar, cPar3, cAug, tDNewK, cCall, cAttr, frzE, List.mem_singleton, List.lookup_cons_self, List.getElem?_cons_zero, List.getElem?_cons_succ, List.set_cons_zero, List.set_cons_succ, Option.some.injEq, reduceCtorEq, if_true, if_false, Bool.true_eq_false, Bool.false_eq_true, decide_eq_true_eq, ite_true, ite_false, ↓reduceIte, List.length_cons, List.length_nil, true_and, and_true, exists_eq_left', exists_eq_left, List.cons.injEq]
      by_cases c1 : 0 < r
      · simp only [c1, decide_true, if_true]
        refine hA _ (seq_ fun N5 h5 => ?_)
        simp only [tDrop]
        refine app (r % 1000003) _ _ _ _ _ rfl (fun P hP => ?_) fun H4 e4 el4 => h5 _ _ ?_
        · try simp only [tSeq, tIfS, tNext, tRet, tRetN, tDrop, tAsg, tC, cVar, tOp, tCB, tCons, tNil, tTup, tLst, tIf, tAnd, tOr, tNot, cTest, cTru, oTru, cAnd, cOr, cNot, cUn, cChain, gName, cTupG, gCons, gNil, gSub, oLt, oLe, oGt, oGe, oIs, oIsNot, oSub, oMul, oFdiv, oMod, oPow, cPar, cPar3, cAug, tDNewK, cCall, cAttr, frzE, List.mem_singleton, List.lookup_cons_self, List.getElem?_cons_zero, List.getElem?_cons_succ, List.set_cons_zero, List.set_cons_succ, Option.some.injEq, reduceCtorEq, if_true, if_false, Bool.true_eq_false, Bool.false_eq_true, decide_eq_true_eq, ite_true, ite_false, ↓reduceIte, List.length_cons, List.length_nil, true_and, and_true, exists_eq_left', exists_eq_left, List.cons.injEq]
          exact ⟨by decide, hP⟩
        · try simp only [tSeq, tIfS, tNext, tRet, tRetN, tDrop, tAsg, tC, cVar, tOp, tCB, tCons, tNil, tTup, tLst, tIf, tAnd, tOr, tNot, cTest, cTru, oTru, cAnd, cOr, cNot, cUn, cChain, gName, cTupG, gCons, gNil, gSub, oLt, oLe, oGt, oGe, oIs, oIsNot, oSub, oMul, oFdiv, oMod, oPow, cPar, cPar3, cAug, tDNewK, cCall, cAttr, frzE, List.mem_singleton, List.lookup_cons_self, List.getElem?_cons_zero, List.getElem?_cons_succ, List.set_cons_zero, List.set_cons_succ, Option.some.injEq, reduceCtorEq, if_true, if_false, Bool.true_eq_false, Bool.false_eq_true, decide_eq_true_eq, ite_true, ite_false, ↓reduceIte, List.length_cons, List.length_nil, true_and, and_true, exists_eq_left', exists_eq_left, List.cons.injEq]
          exact ⟨⟨by decide, by decide⟩, nx _ _ _ _ e4 el4⟩
      · simp only [c1, decide_false, Bool.false_eq_true, if_false]
        refine hB _ (seq_ fun N5 h5 => ?_)
        simp only [oAdd, tSeq, tIfS, tNext, tRet, tRetN, tDrop, tAsg, tC, cVar, tOp, tCB, tCons, tNil, tTup, tLst, tIf, tAnd, tOr, tNot, cTest, cTru, oTru, cAnd, cOr, cNot, cUn, cChain, gName, cTupG, gCons, gNil, gSub, oLt, oLe, oGt, oGe, oIs, oIsNot, oSub, oMul, oFdiv, oMod, oPow, cPar, cPar3, cAug, tDNewK, cCall, cAttr, frzE, List.mem_singleton, List.lookup_cons_self, List.getElem?_cons_zero, List.getElem?_cons_succ, List.set_cons_zero, List.set_cons_succ, Option.some.injEq, reduceCtorEq, if_true, if_false, Bool.true_eq_false, Bool.false_eq_true, decide_eq_true_eq, ite_true, ite_false, ↓reduceIte, List.length_cons, List.length_nil, true_and, and_true, exists_eq_left', exists_eq_left, List.cons.injEq]
        refine ⟨by decide, cmul_of (by decide) (by omega), cmul_of (by omega) (by omega), cmul_of (by decide) (by omega), ?_⟩
        refine h5 _ _ (seq_ fun N6 h6 => ?_)
        try simp only [tSeq, tIfS, tNext, tRet, tRetN, tDrop, tAsg, tC, cVar, tOp, tCB, tCons, tNil, tTup, tLst, tIf, tAnd, tOr, tNot, cTest, cTru, oTru, cAnd, cOr, cNot, cUn, cChain, gName, cTupG, gCons, gNil, gSub, oLt, oLe, oGt, oGe, oIs, oIsNot, oSub, oMul, oFdiv, oMod, oPow, cPar, cPar3, cAug, tDNewK, cCall, cAttr, frzE, List.mem_singleton, List.lookup_cons_self, List.getElem?_cons_zero, List.getElem?_cons_succ, List.set_cons_zero, List.set_cons_succ, Option.some.injEq, reduceCtorEq, if_true, if_false, Bool.true_eq_false, Bool.false_eq_true, decide_eq_true_eq, ite_true, ite_false, ↓reduceIte, List.length_cons, List.length_nil, true_and, and_true, exists_eq_left', exists_eq_left, List.cons.injEq]
        generalize (cell % 2147483629 + 1) * (7 + 48271 * (j : Int)) + 69621 * (j : Int) + 7 = mx
        have m2 := mod_b (a := mx) (m := 2147483647) (by decide)
        refine ⟨by decide, ⟨by decide, by decide, by omega⟩, by decide, ?_⟩
        refine h6 _ _ ?_
        have e5 : ((5 : Int).toNat) = 5 := rfl
        rw [e5]
        generalize (mx % 2147483647) ^ 5 = my
        have m3 := mod_b (a := my) (m := 2147483647) (by decide)
        simp only [tDrop]
        refine app (((my % 2147483647 + j) ^ 5 % 2147483629) / 16) _ _ _ _ _ rfl (fun P hP => ?_) fun H4 e4 el4 => nx _ _ _ _ e4 el4
        simp only [oAdd, tSeq, tIfS, tNext, tRet, tRetN, tDrop, tAsg, tC, cVar, tOp, tCB, tCons, tNil, tTup, tLst, tIf, tAnd, tOr, tNot, cTest, cTru, oTru, cAnd, cOr, cNot, cUn, cChain, gName, cTupG, gCons, gNil, gSub, oLt, oLe, oGt, oGe, oIs, oIsNot, oSub, oMul, oFdiv, oMod, oPow, cPar, cPar3, cAug, tDNewK, cCall, cAttr, frzE, List.mem_singleton, List.lookup_cons_self, List.getElem?_cons_zero, List.getElem?_cons_succ, List.set_cons_zero, List.set_cons_succ, Option.some.injEq, reduceCtorEq, if_true, if_false, Bool.true_eq_false, Bool.false_eq_true, decide_eq_true_eq, ite_true, ite_false, ↓reduceIte, List.length_cons, List.length_nil, true_and, and_true, exists_eq_left', exists_eq_left, List.cons.injEq]
        exact ⟨⟨by decide, by decide, by omega⟩, by decide, ⟨by decide, by decide⟩, hP⟩
  refine ifS_ fun A B hA hB => ?_
  simp only [bAbs, tSeq, tIfS, tNext, tRet, tRetN, tDrop, tAsg, tC, cVar, tOp, tCB, tCons, tNil, tTup, tLst, tIf, tAnd, tOr, tNot, cTest, cTru, oTru, cAnd, cOr, cNot, cUn, cChain, gName, cTupG, gCons, gNil, gSub, oLt, oLe, oGt, oGe, oIs, oIsNot, oSub, oMul, oFdiv, oMod, oPow, cPar, cPar3, cAug, tDNewK, cCall, cAttr, frzE, List.mem_singleton, List.lookup_cons_self, List.getElem?_cons_zero, List.getElem?_cons_succ, List.set_cons_zero, List.set_cons_succ, Option.some.injEq, reduceCtorEq, if_true, if_false, Bool.true_eq_false, Bool.false_eq_true, decide_eq_true_eq, ite_true, ite_false, ↓reduceIte, List.length_cons, List.length_nil, true_and, and_true, exists_eq_left', exists_eq_left, List.cons.injEq]
  refine ⟨⟨by decide, by decide, by decide⟩, ?_⟩
  by_cases c : (10 : Int) ^ Int.toNat 18 ≤ (if cell < 0 then -cell else cell)
  · rw [if_pos (by simpa using c)]
    exact hA _ (by simp only [bAbs, tSeq, tIfS, tNext, tRet, tRetN, tDrop, tAsg, tC, cVar, tOp, tCB, tCons, tNil, tTup, tLst, tIf, tAnd, tOr, tNot, cTest, cTru, oTru, cAnd, cOr, cNot, cUn, cChain, gName, cTupG, gCons, gNil, gSub, oLt, oLe, oGt, oGe, oIs, oIsNot, oSub, oMul, oFdiv, oMod, oPow, cPar, cPar3, cAug, tDNewK, cCall, cAttr, frzE, List.mem_singleton, List.lookup_cons_self, List.getElem?_cons_zero, List.getElem?_cons_succ, List.set_cons_zero, List.set_cons_succ, Option.some.injEq, reduceCtorEq, if_true, if_false, Bool.true_eq_false, Bool.false_eq_true, decide_eq_true_eq, ite_true, ite_false, ↓reduceIte, List.length_cons, List.length_nil, true_and, and_true, exists_eq_left', exists_eq_left, List.cons.injEq]; exact go _)
  · rw [if_neg (by simpa using c)]
    exact hB _ (by try simp only [tSeq, tIfS, tNext, tRet, tRetN, tDrop, tAsg, tC, cVar, tOp, tCB, tCons, tNil, tTup, tLst, tIf, tAnd, tOr, tNot, cTest, cTru, oTru, cAnd, cOr, cNot, cUn, cChain, gName, cTupG, gCons, gNil, gSub, oLt, oLe, oGt, oGe, oIs, oIsNot, oSub, oMul, oFdiv, oMod, oPow, cPar, cPar3, cAug, tDNewK, cCall, cAttr, frzE, List.mem_singleton, List.lookup_cons_self, List.getElem?_cons_zero, List.getElem?_cons_succ, List.set_cons_zero, List.set_cons_succ, Option.some.injEq, reduceCtorEq, if_true, if_false, Bool.true_eq_false, Bool.false_eq_true, decide_eq_true_eq, ite_true, ite_false, ↓reduceIte, List.length_cons, List.length_nil, true_and, and_true, exists_eq_left', exists_eq_left, List.cons.injEq]; exact go _)
end
end WR.L

set_option Elab.async false
set_option linter.all false
set_option maxRecDepth 100000
set_option maxHeartbeats 1000000
namespace WR.L
open PySem PySem.Spec PyProof.Rows L2
section
variable {K : PySem.W.Frag} {n : Nat} {H : Hp} {Q : VK} {E : XK}
def dt (ts : Rws) : List (Key × PyData) := ts.map fun r => (.inr r.1, .tuple [.int r.2.1, .int r.2.2])
theorem dp_rows : ∀ {kvs : List (Key × V)} {ts : Rws}, RR H kvs ts → DpKv K H kvs (dt ts)
  | [], [], _ => .nil
  | [], _ :: _, h => h.elim
  | _ :: _, [], h => h.elim
  | (k, v) :: kvs, (s, c, l) :: ts, h => by
    obtain ⟨rfl, ⟨t, rfl, e⟩, r⟩ := h
    exact .cons (.tup (.inl (.inl e)) (.cons (.int c) (.cons (.int l) .nil))) rfl (dp_rows r)
/-- what == of two told dicts tells -/
def eqT (ts us : Rws) : Bool := ts.length == us.length && eqKv (dt ts) (dt us)
theorem eq_told {a b : Addr} {ts us : Rws} {S : Str → Sp} (ha : RAt H a ts) (hb : RAt H b us) (q : Q (.bl (eqT ts us)) H) : oEqG (gg K S) (.ref a) (.ref b) H Q := by
  obtain ⟨ka, ea, ra⟩ := ha
  obtain ⟨kb, eb, rb⟩ := hb
  unfold oEqG
  rw [ins_dK (K := K) (look_of_dK ea)]
  refine .inr ⟨a, b, ka, kb, dt ts, dt us, rfl, rfl, ea, eb, dp_rows ra, dp_rows rb, ?_⟩
  rw [ra.len, rb.len]
  exact q
theorem s_eq {p d p2 d2 : Addr} {rs rs2 : Rws} (W : WAt K H p d rs) (W2 : WAt K H p2 d2 rs2) (hl : rs.length < 64) (hl2 : rs2.length < 64) (nd : (rs.map (·.1)).Nodup) (nd2 : (rs2.map (·.1)).Nodup)
    (h : ∀ ts us H', Told rs ts → Told rs2 us → Ex H H' → Q (.bl (eqT ts us)) H') : SP K (n+2) "Wrongs.__eq__" [.ref p, .ref p2] H Q E := by
  refine o_Wrongs___eq__ ?_
  simp only [r_Wrongs___eq__, tRet, cAnd, tCB, tCons, cVar, tC, tNil, tOp]
  obtain ⟨⟨dx, hp⟩, _⟩ := id W
  obtain ⟨⟨dx2, hp2⟩, _⟩ := id W2
  simp only [bIsO, List.getElem?_cons_zero, List.getElem?_cons_succ]
  rw [ins_ins hp2]
  refine ⟨trivial, ⟨_, List.mem_singleton_self _, rfl⟩, .inl ⟨rfl, ?_⟩⟩
  simp only [oTru]
  refine mC_own (c_told_0 K _) ?_ fun P P' hh q => mono_var hh q
  try simp only [tSeq, tIfS, tNext, tRet, tRetN, tDrop, tAsg, tC, cVar, tOp, tCB, tCons, tNil, tTup, tLst, tIf, tAnd, tOr, tNot, cTest, cTru, oTru, cAnd, cOr, cNot, cUn, cChain, gName, cTupG, gCons, gNil, gSub, oLt, oLe, oGt, oGe, oIs, oIsNot, oSub, oMul, oFdiv, oMod, oPow, cPar, cPar3, cAug, tDNewK, cCall, cAttr, frzE, List.mem_singleton, List.lookup_cons_self, List.getElem?_cons_zero, List.getElem?_cons_succ, List.set_cons_zero, List.set_cons_succ, Option.some.injEq, reduceCtorEq, if_true, if_false, Bool.true_eq_false, Bool.false_eq_true, decide_eq_true_eq, ite_true, ite_false, ↓reduceIte, List.length_cons, List.length_nil, true_and, and_true, exists_eq_left', exists_eq_left, List.cons.injEq]
  refine ⟨p, dx, _, rfl, hp, lk1 (by decide +kernel), ?_⟩
  try simp only [tSeq, tIfS, tNext, tRet, tRetN, tDrop, tAsg, tC, cVar, tOp, tCB, tCons, tNil, tTup, tLst, tIf, tAnd, tOr, tNot, cTest, cTru, oTru, cAnd, cOr, cNot, cUn, cChain, gName, cTupG, gCons, gNil, gSub, oLt, oLe, oGt, oGe, oIs, oIsNot, oSub, oMul, oFdiv, oMod, oPow, cPar, cPar3, cAug, tDNewK, cCall, cAttr, frzE, List.mem_singleton, List.lookup_cons_self, List.getElem?_cons_zero, List.getElem?_cons_succ, List.set_cons_zero, List.set_cons_succ, Option.some.injEq, reduceCtorEq, if_true, if_false, Bool.true_eq_false, Bool.false_eq_true, decide_eq_true_eq, ite_true, ite_false, ↓reduceIte, List.length_cons, List.length_nil, true_and, and_true, exists_eq_left', exists_eq_left, List.cons.injEq]
  refine s_told W hl nd fun ts q H1 ht e1 hq W1 => ?_
  refine mC_own (c_told_0 K _) ?_ fun P P' hh q => mono_var hh q
  try simp only [tSeq, tIfS, tNext, tRet, tRetN, tDrop, tAsg, tC, cVar, tOp, tCB, tCons, tNil, tTup, tLst, tIf, tAnd, tOr, tNot, cTest, cTru, oTru, cAnd, cOr, cNot, cUn, cChain, gName, cTupG, gCons, gNil, gSub, oLt, oLe, oGt, oGe, oIs, oIsNot, oSub, oMul, oFdiv, oMod, oPow, cPar, cPar3, cAug, tDNewK, cCall, cAttr, frzE, List.mem_singleton, List.lookup_cons_self, List.getElem?_cons_zero, List.getElem?_cons_succ, List.set_cons_zero, List.set_cons_succ, Option.some.injEq, reduceCtorEq, if_true, if_false, Bool.true_eq_false, Bool.false_eq_true, decide_eq_true_eq, ite_true, ite_false, ↓reduceIte, List.length_cons, List.length_nil, true_and, and_true, exists_eq_left', exists_eq_left, List.cons.injEq]
  refine ⟨p2, dx2, _, rfl, e1 _ _ hp2, lk1 (by decide +kernel), ?_⟩
  try simp only [tSeq, tIfS, tNext, tRet, tRetN, tDrop, tAsg, tC, cVar, tOp, tCB, tCons, tNil, tTup, tLst, tIf, tAnd, tOr, tNot, cTest, cTru, oTru, cAnd, cOr, cNot, cUn, cChain, gName, cTupG, gCons, gNil, gSub, oLt, oLe, oGt, oGe, oIs, oIsNot, oSub, oMul, oFdiv, oMod, oPow, cPar, cPar3, cAug, tDNewK, cCall, cAttr, frzE, List.mem_singleton, List.lookup_cons_self, List.getElem?_cons_zero, List.getElem?_cons_succ, List.set_cons_zero, List.set_cons_succ, Option.some.injEq, reduceCtorEq, if_true, if_false, Bool.true_eq_false, Bool.false_eq_true, decide_eq_true_eq, ite_true, ite_false, ↓reduceIte, List.length_cons, List.length_nil, true_and, and_true, exists_eq_left', exists_eq_left, List.cons.injEq]
  refine s_told (W2.ex e1) hl2 nd2 fun us q2 H2 hu e2 hq2 W3 => ?_
  exact eq_told (W1.ex e2) W3 (h ts us H2 ht hu (e1.trans e2))
theorem s_eq_o {p : Addr} {v : V} (hv : (tyN K H v).isSome = true) (h : Q (.bl false) H) : SP K (n+2) "Wrongs.__eq__" [.ref p, v] H Q E := by
  refine o_Wrongs___eq__ ?_
  simp only [r_Wrongs___eq__, tRet, cAnd, tCB, tCons, cVar, tC, tNil, tOp]
  simp only [bIsO, List.getElem?_cons_zero, List.getElem?_cons_succ]
  cases e : tyN K H v with
  | none => rw [e] at hv; cases hv
  | some m =>
    rw [ty_ins e]
    refine ⟨trivial, ?_, ?_⟩
    · show (tyN K H v).isSome = true
      rw [e]; rfl
    · simp only [oTru]; exact h
theorem empty_app (s : Str) : Str.empty ++ s = s := by
  obtain ⟨x⟩ := s
  show Str.mk _ = _
  simp [Str.empty]
def rowT (r : Str × Int × Int) : Str := r.1 ++ " " ++ (toString r.2.1 : String) ++ " " ++ (toString r.2.2 : String)
theorem len_num : ∀ c : Fin 300, (Str.ofString (toString ((c.val : Nat) : Int))).length ≤ 3 := by decide +kernel
theorem num_len {c : Int} (h0 : 0 ≤ c) (h1 : c < 300) : (Str.ofString (toString c)).length ≤ 3 := by
  have := len_num ⟨c.toNat, by omega⟩
  simp only [Int.toNat_of_nonneg h0] at this
  exact this
theorem num_log {c : Int} (h0 : 0 ≤ c) (h1 : c < 300) : c.natAbs.log2 < 1920 := by
  have := log_small (a := c.natAbs) (by omega)
  omega
/-- rows that may stand -/
def Good (m : Nat) (rs : Rws) : Prop := rs.length ≤ m ∧ (rs.map (·.1)).Nodup ∧ ∀ r ∈ rs, isNm r.1 = true ∧ 0 ≤ r.2.1 ∧ r.2.1 ≤ m ∧ 1 ≤ r.2.2 ∧ r.2.2 ≤ 5
theorem told_mem {rs ts : Rws} (nd : (rs.map (·.1)).Nodup) (ht : Told rs ts) {r : Str × Int × Int} (h : r ∈ ts) : r ∈ rs := by
  obtain ⟨ys, p1, s1, rfl⟩ := ht
  unfold ordr at h
  obtain ⟨s, hs, rfl⟩ := List.mem_map.mp h
  obtain ⟨q, hq, e⟩ := List.mem_map.mp (p1.mem_iff.mp hs)
  have := rget_of nd hq
  rw [e] at this
  rw [this]
  simp only [Option.getD_some]
  rw [← e]
  exact hq
theorem told_len {rs ts : Rws} (ht : Told rs ts) : ts.length = rs.length := by
  obtain ⟨ys, p1, s1, rfl⟩ := ht
  unfold ordr; rw [List.length_map, p1.length_eq, List.length_map]
theorem nm_len {s : Str} (h : isNm s = true) : s.length ≤ 8 := by
  unfold isNm at h
  simp only [Bool.and_eq_true, decide_eq_true_eq] at h
  exact h.2.1
theorem rowT_len {r : Str × Int × Int} (h1 : r.1.length ≤ 8) (h2 : 0 ≤ r.2.1) (h3 : r.2.1 < 300) (h4 : 0 ≤ r.2.2) (h5 : r.2.2 < 300) : (rowT r).length ≤ 16 := by
  unfold rowT
  have a := num_len h2 h3
  have b := num_len h4 h5
  simp only [strLen_append]
  have e : (" " : Str).length = 1 := rfl
  rw [e]
  omega
theorem sum_le {l : List Str} {b : Nat} (h : ∀ s ∈ l, s.length ≤ b) : (l.map (·.length)).sum ≤ l.length * b := by
  induction l with
  | nil => simp
  | cons x r ih =>
    have h1 := h x (List.mem_cons_self ..)
    have h2 := ih fun s hs => h s (List.mem_cons_of_mem _ hs)
    simp only [List.map_cons, List.sum_cons, List.length_cons, Nat.succ_mul]
    omega
theorem s_str {p d : Addr} {rs : Rws} {m : Nat} (W : WAt K H p d rs) (g : Good m rs) (hm : m ≤ 63) (h : ∀ ts H', Told rs ts → Ex H H' → Q (.str (Txt.join "; " (ts.map rowT))) H') : SP K (n+2) "Wrongs.__str__" [.ref p] H Q E := by
  refine o_Wrongs___str__ ?_
  obtain ⟨g1, nd, g3⟩ := g
  simp only [r_Wrongs___str__, tRet]
  refine mC_blt ?_ fun P P' hh q => mono_C hh q
  refine ⟨rfl, "str", rfl, _, b_join, ?_⟩
  simp only [tCons, tNil]
  refine .inl ?_
  simp only [cLc, cDview, frzE]
  refine mC_own (c_told_0 K _) ?_ fun P P' hh q => mono_var hh q
  obtain ⟨⟨dx, hp⟩, _⟩ := id W
  try simp only [tSeq, tIfS, tNext, tRet, tRetN, tDrop, tAsg, tC, cVar, tOp, tCB, tCons, tNil, tTup, tLst, tIf, tAnd, tOr, tNot, cTest, cTru, oTru, cAnd, cOr, cNot, cUn, cChain, gName, cTupG, gCons, gNil, gSub, oLt, oLe, oGt, oGe, oIs, oIsNot, oSub, oMul, oFdiv, oMod, oPow, cPar, cPar3, cAug, tDNewK, cCall, cAttr, frzE, List.mem_singleton, List.lookup_cons_self, List.getElem?_cons_zero, List.getElem?_cons_succ, List.set_cons_zero, List.set_cons_succ, Option.some.injEq, reduceCtorEq, if_true, if_false, Bool.true_eq_false, Bool.false_eq_true, decide_eq_true_eq, ite_true, ite_false, ↓reduceIte, List.length_cons, List.length_nil, true_and, and_true, exists_eq_left', exists_eq_left, List.cons.injEq]
  refine ⟨p, dx, _, rfl, hp, lk1 (by decide +kernel), ?_⟩
  try simp only [tSeq, tIfS, tNext, tRet, tRetN, tDrop, tAsg, tC, cVar, tOp, tCB, tCons, tNil, tTup, tLst, tIf, tAnd, tOr, tNot, cTest, cTru, oTru, cAnd, cOr, cNot, cUn, cChain, gName, cTupG, gCons, gNil, gSub, oLt, oLe, oGt, oGe, oIs, oIsNot, oSub, oMul, oFdiv, oMod, oPow, cPar, cPar3, cAug, tDNewK, cCall, cAttr, frzE, List.mem_singleton, List.lookup_cons_self, List.getElem?_cons_zero, List.getElem?_cons_succ, List.set_cons_zero, List.set_cons_succ, Option.some.injEq, reduceCtorEq, if_true, if_false, Bool.true_eq_false, Bool.false_eq_true, decide_eq_true_eq, ite_true, ite_false, ↓reduceIte, List.length_cons, List.length_nil, true_and, and_true, exists_eq_left', exists_eq_left, List.cons.injEq]
  refine s_told W (by omega) nd fun ts q H1 ht e1 hq ⟨kq, eq, rq⟩ => ?_
  simp only [eq]
  intro o1
  simp only [upd_same]
  intro D hD
  have nqD : q ≠ D := fun z => by rw [← z, upd_same] at hD; cases hD
  have hD1 : H1 D = none := by rw [upd_ne nqD.symm] at hD; exact hD
  have rq2 : RR (upd H1 q (.frz o1 (.dK kq))) kq ts := rq.tp fun t xs e => by
    rw [upd_ne (fun z => by rw [z, eq] at e; cases e)]; exact e
  have gt : ∀ r ∈ ts, r.1.length ≤ 8 ∧ 0 ≤ r.2.1 ∧ r.2.1 < 300 ∧ 0 ≤ r.2.2 ∧ r.2.2 < 300 := fun r hr => by
    obtain ⟨k1, k2, k3, k4, k5⟩ := g3 r (told_mem nd ht hr)
    exact ⟨nm_len k1, k2, by omega, by omega, by omega⟩
  refine lpc_inv (n := ts.length) (fun j H' => Ex (upd H1 q (.frz o1 (.dK kq))) H' ∧ H' D = some (.lst (((ts.take j).map rowT).map V.str))) ?_ ?_ ⟨Ex.refl.new hD, by rw [upd_same]; rfl⟩
  · rintro H2 ⟨e2, hD2⟩
    have eq2 := e2 q _ upd_same
    refine ⟨⟨eq2, by rw [rq.len]; exact Nat.le_refl _⟩, ?_⟩
    rw [List.take_length] at hD2
    refine ⟨ts.map rowT, .inl (look_of_lst hD2), ?_, h ts H2 ht fun b ob eb => e2 b ob (by rw [upd_ne (ne_of_none eb hq)]; exact e1 b ob eb)⟩
    have h1 : ((ts.map rowT).map (·.length)).sum ≤ (ts.map rowT).length * 16 := sum_le fun s hs => by
      obtain ⟨r, hr, rfl⟩ := List.mem_map.mp hs
      obtain ⟨k1, k2, k3, k4, k5⟩ := gt r hr
      exact rowT_len k1 k2 k3 k4 k5
    have h2 := told_len ht
    have e : ("; " : Str).length = 2 := rfl
    rw [e]
    rw [List.length_map] at h1 ⊢
    omega
  · rintro j H2 hj ⟨e2, hD2⟩ R hR
    have eq2 := e2 q _ upd_same
    refine ⟨⟨eq2, by rw [rq.len]; exact hj⟩, ?_⟩
    rintro x H3 ⟨T, k, v, hk, rfl, hT, rfl⟩
    have r3 := rq2.tp e2.tp
    obtain ⟨s, c, l, t, hs, rfl, rfl, et⟩ := RR.at r3 hk
    have et4 : (upd H2 T (.tup [.str s, .ref t])) t = some (.tup [.int c, .int l]) := (Ex.refl.new hT) _ _ et
    refine unpack (s := s) (t := t) upd_same et4 ?_
    refine ⟨rfl, ?_⟩
    obtain ⟨k1, k2, k3, k4, k5⟩ := gt _ (List.mem_of_getElem? hs)
    dsimp only at k1 k2 k3 k4 k5
    have a1 := num_len k2 k3
    have a2 := num_len k4 k5
    have e1' : (" " : Str).length = 1 := rfl
    have z0 : (Str.empty).length = 0 := rfl
    have sz : (1000 : Nat) < sizeLine := small1000 (Nat.le_refl _)
    simp only [tYes, if_true, joinT, cJs, cFmt, tSeq, tIfS, tNext, tRet, tRetN, tDrop, tAsg, tC, cVar, tOp, tCB, tCons, tNil, tTup, tLst, tIf, tAnd, tOr, tNot, cTest, cTru, oTru, cAnd, cOr, cNot, cUn, cChain, gName, cTupG, gCons, gNil, gSub, oLt, oLe, oGt, oGe, oIs, oIsNot, oSub, oMul, oFdiv, oMod, oPow, cPar, cPar3, cAug, tDNewK, cCall, cAttr, frzE, List.mem_singleton, List.lookup_cons_self, List.getElem?_cons_zero, List.getElem?_cons_succ, List.set_cons_zero, List.set_cons_succ, Option.some.injEq, reduceCtorEq, if_true, if_false, Bool.true_eq_false, Bool.false_eq_true, decide_eq_true_eq, ite_true, ite_false, ↓reduceIte, List.length_cons, List.length_nil, true_and, and_true, exists_eq_left', exists_eq_left, List.cons.injEq]
    refine ⟨by omega, by simp only [strLen_append, z0]; omega, by simp only [strLen_append, z0, e1']; omega, num_log k2 k3, by simp only [strLen_append, z0, e1']; omega, by simp only [strLen_append, z0, e1']; omega, num_log k4 k5, by simp only [strLen_append, z0, e1']; omega, ?_⟩
    rw [empty_app]
    have nDT : D ≠ T := ne_of_none hD2 hT
    refine ⟨_, by rw [upd_ne nDT]; exact hD2, ?_, hR _ ⟨?_, ?_⟩⟩
    · rw [List.length_map, List.length_map, List.length_take]
      have := told_len ht
      exact small1000 (by omega)
    · intro b o eb
      have hb : b ≠ D := fun z => by rw [z, hD] at eb; cases eb
      rw [upd_ne hb]; exact (e2.trans (Ex.refl.new hT)) b o eb
    · rw [upd_same, List.take_add_one, hs]
      simp [rowT]
end
end WR.L

set_option Elab.async false
set_option linter.all false
set_option maxRecDepth 100000
set_option maxHeartbeats 1000000
namespace WR.L
open PySem PySem.Spec PyProof.Rows L2
section
variable {K : PySem.W.Frag} {n : Nat} {H : Hp} {Q : VK} {E : XK}
theorem ats_bool {S : Str → Sp} : (gg K S).ats.lookup ("__bool__" : Str) = some [He.ga K "Wrongs"] := by kernel_rfl
theorem len_own {S : Nat} {p d : Addr} {rs : Rws} (W : WAt K H p d rs) (hl : rs.length < 1000) (q : Q (.int rs.length) H) : bLenG (gg K (SP K (S+1))) [.ref p] H Q := by
  obtain ⟨⟨dx, hp⟩, _⟩ := id W
  unfold bLenG
  simp only [ins_ins hp]
  refine spc_one (cs_len K _) rfl ?_
  exact s_len W ⟨⟨by omega, by omega⟩, q⟩
theorem bool_own {S : Nat} {p d : Addr} {rs : Rws} (W : WAt K H p d rs) (hl : rs.length < 1000) (q : Q (.bl ((rs.length : Int) != 0)) H) : bBoolG (gg K (SP K (S+1))) [.ref p] H Q := by
  obtain ⟨⟨dx, hp⟩, _⟩ := id W
  unfold bBoolG
  simp only [ins_ins hp]
  refine ⟨⟨_, ats_bool, List.mem_singleton_self _⟩, spc_one (cs_len K _) rfl ?_⟩
  exact s_len W ⟨⟨by omega, by omega⟩, q⟩
theorem str_own {S : Nat} {p d : Addr} {rs : Rws} {m : Nat} (W : WAt K H p d rs) (g : Good m rs) (hm : m ≤ 63) (h : ∀ ts H', Told rs ts → Ex H H' → Q (.str (Txt.join "; " (ts.map rowT))) H') : bStrG (gg K (SP K (S+2))) [.ref p] H Q := by
  obtain ⟨⟨dx, hp⟩, _⟩ := id W
  unfold bStrG
  simp only [ins_ins hp]
  exact spc_one (cs_str K _) rfl (s_str W g hm fun ts H' ht e => h ts H' ht e)
theorem eq_own {S : Nat} {p d p2 d2 : Addr} {rs rs2 : Rws} (W : WAt K H p d rs) (W2 : WAt K H p2 d2 rs2) (hl : rs.length < 64) (hl2 : rs2.length < 64) (nd : (rs.map (·.1)).Nodup) (nd2 : (rs2.map (·.1)).Nodup)
    (h : ∀ ts us H', Told rs ts → Told rs2 us → Ex H H' → Q (.bl (eqT ts us)) H') : oEqG (gg K (SP K (S+2))) (.ref p) (.ref p2) H Q := by
  obtain ⟨⟨dx, hp⟩, _⟩ := id W
  obtain ⟨⟨dx2, hp2⟩, _⟩ := id W2
  unfold oEqG
  simp only [ins_ins hp]
  exact ⟨.inr ⟨_, _, ins_ins hp2⟩, spc_one (cs_eq K _) rfl (s_eq W W2 hl hl2 nd nd2 fun ts us H' h1 h2 e => h ts us H' h1 h2 e)⟩
theorem eq_own_o {S : Nat} {p d : Addr} {rs : Rws} {v : V} (W : WAt K H p d rs) (hv : (tyN K H v).isSome = true) (q : Q (.bl false) H) : oEqG (gg K (SP K (S+2))) (.ref p) v H Q := by
  obtain ⟨⟨dx, hp⟩, _⟩ := id W
  unfold oEqG
  simp only [ins_ins hp]
  exact ⟨.inl hv, spc_one (vs := [v]) (cs_eq K _) rfl (s_eq_o hv q)⟩
theorem ne_own_o {S : Nat} {p d : Addr} {rs : Rws} {v : V} (W : WAt K H p d rs) (hv : (tyN K H v).isSome = true) (q : Q (.bl true) H) : oNeG (gg K (SP K (S+2))) (.ref p) v H Q := by
  obtain ⟨⟨dx, hp⟩, _⟩ := id W
  unfold oNeG
  simp only [ins_ins hp]
  exact ⟨⟨_, List.mem_singleton_self _, rfl⟩, .inl hv, spc_one (vs := [v]) (cs_eq K _) rfl (s_eq_o hv q)⟩
/-- rows != {} -/
theorem ne_empty {S : Str → Sp} {a b : Addr} {rs : Rws} (ha : RAt H a rs) (hb : H b = some (.dK [])) (q : Q (.bl ((rs.length : Int) != 0)) H) : oNeG (gg K S) (.ref a) (.ref b) H Q := by
  obtain ⟨ka, ea, ra⟩ := ha
  unfold oNeG
  rw [ins_dK (K := K) (look_of_dK ea)]
  refine .inr ⟨a, b, ka, [], dt rs, [], rfl, rfl, ea, hb, dp_rows ra, .nil, ?_⟩
  have e : (!(ka.length == ([] : List (Key × V)).length && eqKv (dt rs) [])) = ((rs.length : Int) != 0) := by
    rw [ra.len]
    cases rs with
    | nil => rfl
    | cons r rs =>
      have h1 : ((r :: rs).length == ([] : List (Key × V)).length) = false := by simp
      rw [h1]
      have h2 : (((r :: rs).length : Int) != 0) = true := by
        have : ((r :: rs).length : Int) ≠ 0 := by simp; omega
        simpa using this
      rw [h2]; rfl
  rw [e]; exact q
/-- rows.get(name, (0, 0))[0] -/
theorem get_cnt {S : Str → Sp} {d : Addr} {rs : Rws} {s : Str} {i j : Nat} {σ : L2.St} {W : WX} (R : RAt H d rs) (hi : σ[i]? = some (some (.ref d))) (hj : σ[j]? = some (some (.str s)))
    (h : ∀ H', Ex H H' → Q (.int (cnt rs s)) H') : tOp (oIx K) (mC (gg K S) "get" 2 0 [] (cVar i) (tCons (cVar j) (tCons (tTup (tCons (tC (.int 0)) (tCons (tC (.int 0)) tNil))) tNil)) tNil W) (tC (.int 0)) σ H Q := by
  obtain ⟨kvs, hd, r⟩ := R
  simp only [tOp]
  refine mC_blt ?_ fun P P' hh q => mono_var hh q
  simp only [cVar, hi]
  have e0 : look K H d = some (.dK kvs) := look_of_dK hd
  refine ⟨ins_dK (K := K) e0, "dict", tyB_dK (K := K) hd, _, b_get, ?_⟩
  simp only [cVar, hj, tSeq, tIfS, tNext, tRet, tRetN, tDrop, tAsg, tC, cVar, tOp, tCB, tCons, tNil, tTup, tLst, tIf, tAnd, tOr, tNot, cTest, cTru, oTru, cAnd, cOr, cNot, cUn, cChain, gName, cTupG, gCons, gNil, gSub, oLt, oLe, oGt, oGe, oIs, oIsNot, oSub, oMul, oFdiv, oMod, oPow, cPar, cPar3, cAug, tDNewK, cCall, cAttr, frzE, List.mem_singleton, List.lookup_cons_self, List.getElem?_cons_zero, List.getElem?_cons_succ, List.set_cons_zero, List.set_cons_succ, Option.some.injEq, reduceCtorEq, if_true, if_false, Bool.true_eq_false, Bool.false_eq_true, decide_eq_true_eq, ite_true, ite_false, ↓reduceIte, List.length_cons, List.length_nil, true_and, and_true, exists_eq_left', exists_eq_left, List.cons.injEq]
  refine ⟨by simp only [sizeLine_eq]; omega, fun t0 ht0 => ?_⟩
  have ndt : d ≠ t0 := ne_of_none hd ht0
  have hd0 : (upd H t0 (.tup [.int 0, .int 0])) d = some (.dK kvs) := by rw [upd_ne ndt]; exact hd
  have r0 : RR (upd H t0 (.tup [.int 0, .int 0])) kvs rs := r.tp (Ex.refl.new ht0).tp
  simp only [mGetD, oGet, hd0, keyOf]
  have q := h _ (Ex.refl.new (o := .tup [.int 0, .int 0]) ht0)
  rcases r0.get s with ⟨a, b⟩ | ⟨t, c, l, a, b, et⟩
  · rw [a]
    unfold cnt at q
    rw [b] at q
    simp only [Option.getD_none]
    rw [ix_tup (look_of_tup upd_same) (v := .int 0) rfl]
    exact q
  · rw [a]
    unfold cnt at q
    rw [b] at q
    simp only [Option.getD_some]
    rw [ix_tup (look_of_tup et) (v := .int c) rfl]
    exact q
end
end WR.L

set_option Elab.async false
set_option linter.all false
set_option maxRecDepth 100000
set_option maxHeartbeats 1000000
namespace WR.L
open PySem PySem.Spec PyProof.Rows L2
section
variable {K : PySem.W.Frag} {n : Nat} {H : Hp} {Q : VK} {E : XK}
theorem kb_o (m : String) (h : m = "NoneType" ∨ m = "int" ∨ m = "list" ∨ m = "tuple" ∨ m = "bool") : kitB m "str" = some false := by
  rcases h with rfl | rfl | rfl | rfl | rfl <;> kernel_rfl
theorem nm_bad1 : isNm "" = false := by decide +kernel
theorem nm_bad2 : isNm "A" = false := by decide +kernel
theorem s_law_right {p d e nl : Addr} {rs : Rws} {nms : List Str} {m : Nat} (W : WAt K H p d rs) (R : RAt H e rs) (g : Good m rs) (hm : m ≤ 63) (hn : H nl = some (.lst (nms.map V.str))) (hok : ∀ s ∈ nms, isNm s = true) (h5 : nms.length = 5)
    (h : ∀ H', Ex H H' → Q (.bl true) H') : SP K (n+5) "_law_right" [.ref p, .ref e, .ref nl] H Q E := by
  refine o__law_right ?_
  unfold r__law_right
  obtain ⟨g1, nd, g3⟩ := id g
  have okk : ∀ s ∈ rs.map (·.1), okS s := fun s hs => by
    obtain ⟨r, hr, rfl⟩ := List.mem_map.mp hs
    exact nm_ok (g3 r hr).1
  have okt : ∀ ts, Told rs ts → ∀ s ∈ ts.map (·.1), okS s := fun ts ht s hs => by
    obtain ⟨r, hr, rfl⟩ := List.mem_map.mp hs
    exact nm_ok (g3 r (told_mem nd ht hr)).1
  have ndt : ∀ ts, Told rs ts → (ts.map (·.1)).Nodup := fun ts ht => by
    obtain ⟨ys, p1, s1, rfl⟩ := ht
    rw [ordr_keys]; exact p1.nodup_iff.mpr nd
  refine seq_ fun N1 h1 => ?_
  simp only [tAsg]
  refine mC_own (c_told_0 K _) ?_ fun P P' hh q => mono_var hh q
  obtain ⟨⟨dx, hp⟩, _⟩ := id W
  try simp only [tSeq, tIfS, tNext, tRet, tRetN, tDrop, tAsg, tC, cVar, tOp, tCB, tCons, tNil, tTup, tLst, tIf, tAnd, tOr, tNot, cTest, cTru, oTru, cAnd, cOr, cNot, cUn, cChain, gName, cTupG, gCons, gNil, gSub, oLt, oLe, oGt, oGe, oIs, oIsNot, oSub, oMul, oFdiv, oMod, oPow, cPar, cPar3, cAug, tDNewK, cCall, cAttr, frzE, List.mem_singleton, List.lookup_cons_self, List.getElem?_cons_zero, List.getElem?_cons_succ, List.set_cons_zero, List.set_cons_succ, Option.some.injEq, reduceCtorEq, if_true, if_false, Bool.true_eq_false, Bool.false_eq_true, decide_eq_true_eq, ite_true, ite_false, ↓reduceIte, List.length_cons, List.length_nil, true_and, and_true, exists_eq_left', exists_eq_left, List.cons.injEq]
  refine ⟨p, dx, _, rfl, hp, lk1 (by decide +kernel), ?_⟩
  try simp only [tSeq, tIfS, tNext, tRet, tRetN, tDrop, tAsg, tC, cVar, tOp, tCB, tCons, tNil, tTup, tLst, tIf, tAnd, tOr, tNot, cTest, cTru, oTru, cAnd, cOr, cNot, cUn, cChain, gName, cTupG, gCons, gNil, gSub, oLt, oLe, oGt, oGe, oIs, oIsNot, oSub, oMul, oFdiv, oMod, oPow, cPar, cPar3, cAug, tDNewK, cCall, cAttr, frzE, List.mem_singleton, List.lookup_cons_self, List.getElem?_cons_zero, List.getElem?_cons_succ, List.set_cons_zero, List.set_cons_succ, Option.some.injEq, reduceCtorEq, if_true, if_false, Bool.true_eq_false, Bool.false_eq_true, decide_eq_true_eq, ite_true, ite_false, ↓reduceIte, List.length_cons, List.length_nil, true_and, and_true, exists_eq_left', exists_eq_left, List.cons.injEq]
  refine s_told W (by omega) nd fun ts q H1 ht e1 hq W1 => h1 _ _ (seq_ fun N2 h2 => ifS_ fun A B hA hB => ?_)
  have hqH : H q = none := hq
  simp only [tOr, tNot, cTru, cCall, tCons, tNil, cVar, tSeq, tIfS, tNext, tRet, tRetN, tDrop, tAsg, tC, cVar, tOp, tCB, tCons, tNil, tTup, tLst, tIf, tAnd, tOr, tNot, cTest, cTru, oTru, cAnd, cOr, cNot, cUn, cChain, gName, cTupG, gCons, gNil, gSub, oLt, oLe, oGt, oGe, oIs, oIsNot, oSub, oMul, oFdiv, oMod, oPow, cPar, cPar3, cAug, tDNewK, cCall, cAttr, frzE, List.mem_singleton, List.lookup_cons_self, List.getElem?_cons_zero, List.getElem?_cons_succ, List.set_cons_zero, List.set_cons_succ, Option.some.injEq, reduceCtorEq, if_true, if_false, Bool.true_eq_false, Bool.false_eq_true, decide_eq_true_eq, ite_true, ite_false, ↓reduceIte, List.length_cons, List.length_nil, true_and, and_true, exists_eq_left', exists_eq_left, List.cons.injEq]
  refine s_law_told (R.ex e1) (by omega) nd fun us q2 H2 hu e2 hq2 W2 => ?_
  obtain rfl := ht.uniq hu
  have W1' := W1.ex e2
  have nqq : q ≠ q2 := fun z => by
    obtain ⟨_, ee, _⟩ := W1
    rw [z, hq2] at ee; cases ee
  try simp only [tSeq, tIfS, tNext, tRet, tRetN, tDrop, tAsg, tC, cVar, tOp, tCB, tCons, tNil, tTup, tLst, tIf, tAnd, tOr, tNot, cTest, cTru, oTru, cAnd, cOr, cNot, cUn, cChain, gName, cTupG, gCons, gNil, gSub, oLt, oLe, oGt, oGe, oIs, oIsNot, oSub, oMul, oFdiv, oMod, oPow, cPar, cPar3, cAug, tDNewK, cCall, cAttr, frzE, List.mem_singleton, List.lookup_cons_self, List.getElem?_cons_zero, List.getElem?_cons_succ, List.set_cons_zero, List.set_cons_succ, Option.some.injEq, reduceCtorEq, if_true, if_false, Bool.true_eq_false, Bool.false_eq_true, decide_eq_true_eq, ite_true, ite_false, ↓reduceIte, List.length_cons, List.length_nil, true_and, and_true, exists_eq_left', exists_eq_left, List.cons.injEq]
  refine s_alike_dict W1' W2 nqq (by rw [told_len ht]; omega) (ndt ts ht) (okt ts ht) fun H3 e3 => ?_
  have e03 : Ex H H3 := (e1.trans e2).trans e3
  simp only [Bool.not_true, tSeq, tIfS, tNext, tRet, tRetN, tDrop, tAsg, tC, cVar, tOp, tCB, tCons, tNil, tTup, tLst, tIf, tAnd, tOr, tNot, cTest, cTru, oTru, cAnd, cOr, cNot, cUn, cChain, gName, cTupG, gCons, gNil, gSub, oLt, oLe, oGt, oGe, oIs, oIsNot, oSub, oMul, oFdiv, oMod, oPow, cPar, cPar3, cAug, tDNewK, cCall, cAttr, frzE, List.mem_singleton, List.lookup_cons_self, List.getElem?_cons_zero, List.getElem?_cons_succ, List.set_cons_zero, List.set_cons_succ, Option.some.injEq, reduceCtorEq, if_true, if_false, Bool.true_eq_false, Bool.false_eq_true, decide_eq_true_eq, ite_true, ite_false, ↓reduceIte, List.length_cons, List.length_nil, true_and, and_true, exists_eq_left', exists_eq_left, List.cons.injEq]
  refine len_own (W.ex e03) (by omega) ?_
  obtain ⟨kv, ekv, rkv⟩ := R.ex e03
  rw [len_dK rfl ekv, rkv.len]
  refine ne_scal rfl rfl rfl ?_
  simp only [decide_true, Bool.not_true, tSeq, tIfS, tNext, tRet, tRetN, tDrop, tAsg, tC, cVar, tOp, tCB, tCons, tNil, tTup, tLst, tIf, tAnd, tOr, tNot, cTest, cTru, oTru, cAnd, cOr, cNot, cUn, cChain, gName, cTupG, gCons, gNil, gSub, oLt, oLe, oGt, oGe, oIs, oIsNot, oSub, oMul, oFdiv, oMod, oPow, cPar, cPar3, cAug, tDNewK, cCall, cAttr, frzE, List.mem_singleton, List.lookup_cons_self, List.getElem?_cons_zero, List.getElem?_cons_succ, List.set_cons_zero, List.set_cons_succ, Option.some.injEq, reduceCtorEq, if_true, if_false, Bool.true_eq_false, Bool.false_eq_true, decide_eq_true_eq, ite_true, ite_false, ↓reduceIte, List.length_cons, List.length_nil, true_and, and_true, exists_eq_left', exists_eq_left, List.cons.injEq]
  refine bool_own (W.ex e03) (by omega) ?_
  intro z hz
  refine ne_empty (rs := rs) ((R.ex e03).ex (Ex.refl.new hz)) upd_same ?_
  refine ne_scal rfl rfl rfl ?_
  simp only [decide_true, Bool.not_true, tSeq, tIfS, tNext, tRet, tRetN, tDrop, tAsg, tC, cVar, tOp, tCB, tCons, tNil, tTup, tLst, tIf, tAnd, tOr, tNot, cTest, cTru, oTru, cAnd, cOr, cNot, cUn, cChain, gName, cTupG, gCons, gNil, gSub, oLt, oLe, oGt, oGe, oIs, oIsNot, oSub, oMul, oFdiv, oMod, oPow, cPar, cPar3, cAug, tDNewK, cCall, cAttr, frzE, List.mem_singleton, List.lookup_cons_self, List.getElem?_cons_zero, List.getElem?_cons_succ, List.set_cons_zero, List.set_cons_succ, Option.some.injEq, reduceCtorEq, if_true, if_false, Bool.true_eq_false, Bool.false_eq_true, decide_eq_true_eq, ite_true, ite_false, ↓reduceIte, List.length_cons, List.length_nil, true_and, and_true, exists_eq_left', exists_eq_left, List.cons.injEq]
  refine hB _ (h2 _ _ (seq_ fun N3 h3 => ?_))
  -- told.clear()
  simp only [tDrop]
  have e3' := e3
  have hz3 : z ≠ q := fun zz => by
    obtain ⟨_, ee, _⟩ := W1'.ex e3
    rw [← zz, hz] at ee; cases ee
  obtain ⟨kq, ekq, rkq⟩ := (W1'.ex e3).ex (Ex.refl.new hz (o := .dK []))
  have e04 : Ex H (upd H3 z (.dK [])) := e03.trans (Ex.refl.new hz)
  refine mC_blt ?_ fun P P' hh q => mono_var hh q
  try simp only [tSeq, tIfS, tNext, tRet, tRetN, tDrop, tAsg, tC, cVar, tOp, tCB, tCons, tNil, tTup, tLst, tIf, tAnd, tOr, tNot, cTest, cTru, oTru, cAnd, cOr, cNot, cUn, cChain, gName, cTupG, gCons, gNil, gSub, oLt, oLe, oGt, oGe, oIs, oIsNot, oSub, oMul, oFdiv, oMod, oPow, cPar, cPar3, cAug, tDNewK, cCall, cAttr, frzE, List.mem_singleton, List.lookup_cons_self, List.getElem?_cons_zero, List.getElem?_cons_succ, List.set_cons_zero, List.set_cons_succ, Option.some.injEq, reduceCtorEq, if_true, if_false, Bool.true_eq_false, Bool.false_eq_true, decide_eq_true_eq, ite_true, ite_false, ↓reduceIte, List.length_cons, List.length_nil, true_and, and_true, exists_eq_left', exists_eq_left, List.cons.injEq]
  refine ⟨ins_dK (K := K) (look_of_dK ekq), "dict", tyB_dK (K := K) ekq, _, b_clear, ?_⟩
  simp only [mClearD, ekq]
  have e05 : Ex H (upd (upd H3 z (.dK [])) q (.dK [])) := fun b o eb => by
    rw [upd_ne (ne_of_none eb hqH)]; exact e04 b o eb
  generalize upd (upd H3 z (.dK [])) q (.dK []) = H5 at e05 ⊢
  refine h3 _ _ (seq_ fun N4 h4 => .inl ?_)
  -- texts
  have R5 := R.ex e05
  obtain ⟨kv5, ekv5, rkv5⟩ := id R5
  simp only [tAsg, cLc, cIter, frzE, tSeq, tIfS, tNext, tRet, tRetN, tDrop, tAsg, tC, cVar, tOp, tCB, tCons, tNil, tTup, tLst, tIf, tAnd, tOr, tNot, cTest, cTru, oTru, cAnd, cOr, cNot, cUn, cChain, gName, cTupG, gCons, gNil, gSub, oLt, oLe, oGt, oGe, oIs, oIsNot, oSub, oMul, oFdiv, oMod, oPow, cPar, cPar3, cAug, tDNewK, cCall, cAttr, frzE, List.mem_singleton, List.lookup_cons_self, List.getElem?_cons_zero, List.getElem?_cons_succ, List.set_cons_zero, List.set_cons_succ, Option.some.injEq, reduceCtorEq, if_true, if_false, Bool.true_eq_false, Bool.false_eq_true, decide_eq_true_eq, ite_true, ite_false, ↓reduceIte, List.length_cons, List.length_nil, true_and, and_true, exists_eq_left', exists_eq_left, List.cons.injEq]
  simp only [bSorted, look_of_dK ekv5, rkv5.keys]
  refine ⟨by rw [List.length_map]; omega, fun ys py sy l hl => ?_⟩
  try simp only [tSeq, tIfS, tNext, tRet, tRetN, tDrop, tAsg, tC, cVar, tOp, tCB, tCons, tNil, tTup, tLst, tIf, tAnd, tOr, tNot, cTest, cTru, oTru, cAnd, cOr, cNot, cUn, cChain, gName, cTupG, gCons, gNil, gSub, oLt, oLe, oGt, oGe, oIs, oIsNot, oSub, oMul, oFdiv, oMod, oPow, cPar, cPar3, cAug, tDNewK, cCall, cAttr, frzE, List.mem_singleton, List.lookup_cons_self, List.getElem?_cons_zero, List.getElem?_cons_succ, List.set_cons_zero, List.set_cons_succ, Option.some.injEq, reduceCtorEq, if_true, if_false, Bool.true_eq_false, Bool.false_eq_true, decide_eq_true_eq, ite_true, ite_false, ↓reduceIte, List.length_cons, List.length_nil, true_and, and_true, exists_eq_left', exists_eq_left, List.cons.injEq]
  simp only [upd_same, look_of_lst upd_same]
  intro D hD
  have hlD : l ≠ D := fun z => by rw [z, upd_same] at hD; cases hD
  have nel : e ≠ l := ne_of_none ekv5 hl
  have ez : ordr rs ys = ts := (told_ex py sy).uniq ht
  have gt : ∀ r ∈ ts, r.1.length ≤ 8 ∧ 0 ≤ r.2.1 ∧ r.2.1 < 300 ∧ 0 ≤ r.2.2 ∧ r.2.2 < 300 := fun r hr => by
    obtain ⟨k1, k2, k3, k4, k5⟩ := g3 r (told_mem nd ht hr)
    exact ⟨nm_len k1, k2, by omega, by omega, by omega⟩
  have hly : ys.length = ts.length := by rw [← ez]; unfold ordr; simp
  refine lpc_inv (n := ys.length) (fun j H' => Ex (upd H5 l (.lst (ys.map V.str))) H' ∧ H' D = some (.lst (((ts.take j).map rowT).map V.str))) ?_ ?_ ⟨Ex.refl.new hD, by rw [upd_same]; rfl⟩
  · rintro H6 ⟨e6, hD6⟩
    refine ⟨itl_stop (e6 _ _ upd_same) (by simp), ?_⟩
    have e06 : Ex H H6 := fun b o eb => e6 b o (by rw [upd_ne (ne_of_none (e05 b o eb) hl)]; exact e05 b o eb)
    rw [hly, List.take_length] at hD6
    refine h4 _ _ (seq_ fun N5 h5' => ifS_ fun A B hA hB => ?_)
    simp only [tNot, cTru, cCall, tSeq, tIfS, tNext, tRet, tRetN, tDrop, tAsg, tC, cVar, tOp, tCB, tCons, tNil, tTup, tLst, tIf, tAnd, tOr, tNot, cTest, cTru, oTru, cAnd, cOr, cNot, cUn, cChain, gName, cTupG, gCons, gNil, gSub, oLt, oLe, oGt, oGe, oIs, oIsNot, oSub, oMul, oFdiv, oMod, oPow, cPar, cPar3, cAug, tDNewK, cCall, cAttr, frzE, List.mem_singleton, List.lookup_cons_self, List.getElem?_cons_zero, List.getElem?_cons_succ, List.set_cons_zero, List.set_cons_succ, Option.some.injEq, reduceCtorEq, if_true, if_false, Bool.true_eq_false, Bool.false_eq_true, decide_eq_true_eq, ite_true, ite_false, ↓reduceIte, List.length_cons, List.length_nil, true_and, and_true, exists_eq_left', exists_eq_left, List.cons.injEq]
    refine str_own (W.ex e06) g hm fun ts2 H7 ht2 e7 => ?_
    obtain rfl := ht2.uniq ht
    have e07 : Ex H H7 := e06.trans e7
    refine mC_blt ?_ fun P P' hh q => mono_C hh q
    refine ⟨rfl, "str", rfl, _, b_join, ?_⟩
    simp only [tSeq, tIfS, tNext, tRet, tRetN, tDrop, tAsg, tC, cVar, tOp, tCB, tCons, tNil, tTup, tLst, tIf, tAnd, tOr, tNot, cTest, cTru, oTru, cAnd, cOr, cNot, cUn, cChain, gName, cTupG, gCons, gNil, gSub, oLt, oLe, oGt, oGe, oIs, oIsNot, oSub, oMul, oFdiv, oMod, oPow, cPar, cPar3, cAug, tDNewK, cCall, cAttr, frzE, List.mem_singleton, List.lookup_cons_self, List.getElem?_cons_zero, List.getElem?_cons_succ, List.set_cons_zero, List.set_cons_succ, Option.some.injEq, reduceCtorEq, if_true, if_false, Bool.true_eq_false, Bool.false_eq_true, decide_eq_true_eq, ite_true, ite_false, ↓reduceIte, List.length_cons, List.length_nil, true_and, and_true, exists_eq_left', exists_eq_left, List.cons.injEq]
    have hsum : ((ts2.map rowT).map (·.length)).sum ≤ (ts2.map rowT).length * 16 := sum_le fun s hs => by
      obtain ⟨r, hr, rfl⟩ := List.mem_map.mp hs
      obtain ⟨k1, k2, k3, k4, k5⟩ := gt r hr
      exact rowT_len k1 k2 k3 k4 k5
    refine ⟨ts2.map rowT, .inl (look_of_lst (e7 _ _ hD6)), ?_, ?_⟩
    · have h2' := told_len ht
      have e : ("; " : Str).length = 2 := rfl
      rw [e]
      rw [List.length_map] at hsum ⊢
      omega
    refine s_alike_str ?_
    simp only [Bool.not_true, tSeq, tIfS, tNext, tRet, tRetN, tDrop, tAsg, tC, cVar, tOp, tCB, tCons, tNil, tTup, tLst, tIf, tAnd, tOr, tNot, cTest, cTru, oTru, cAnd, cOr, cNot, cUn, cChain, gName, cTupG, gCons, gNil, gSub, oLt, oLe, oGt, oGe, oIs, oIsNot, oSub, oMul, oFdiv, oMod, oPow, cPar, cPar3, cAug, tDNewK, cCall, cAttr, frzE, List.mem_singleton, List.lookup_cons_self, List.getElem?_cons_zero, List.getElem?_cons_succ, List.set_cons_zero, List.set_cons_succ, Option.some.injEq, reduceCtorEq, if_true, if_false, Bool.true_eq_false, Bool.false_eq_true, decide_eq_true_eq, ite_true, ite_false, ↓reduceIte, List.length_cons, List.length_nil, true_and, and_true, exists_eq_left', exists_eq_left, List.cons.injEq]
    refine hB _ (h5' _ _ (seq_ fun N6 h6 => .inl ?_))
    have hn7 := e07 _ _ hn
    simp only [cFor, cIter, frzE, tSeq, tIfS, tNext, tRet, tRetN, tDrop, tAsg, tC, cVar, tOp, tCB, tCons, tNil, tTup, tLst, tIf, tAnd, tOr, tNot, cTest, cTru, oTru, cAnd, cOr, cNot, cUn, cChain, gName, cTupG, gCons, gNil, gSub, oLt, oLe, oGt, oGe, oIs, oIsNot, oSub, oMul, oFdiv, oMod, oPow, cPar, cPar3, cAug, tDNewK, cCall, cAttr, frzE, List.mem_singleton, List.lookup_cons_self, List.getElem?_cons_zero, List.getElem?_cons_succ, List.set_cons_zero, List.set_cons_succ, Option.some.injEq, reduceCtorEq, if_true, if_false, Bool.true_eq_false, Bool.false_eq_true, decide_eq_true_eq, ite_true, ite_false, ↓reduceIte, List.length_cons, List.length_nil, true_and, and_true, exists_eq_left', exists_eq_left, List.cons.injEq]
    simp only [hn7, look_of_lst hn7]
    refine lp_inv (n := nms.length) (fun j σ H' => (∃ v5 v7, σ = [some (.ref p), some (.ref e), some (.ref nl), some (.ref q), some (.ref D), v5, none, v7]) ∧ Ex H H') ?_ ?_ ⟨⟨_, _, rfl⟩, e07⟩
    · rintro σ H8 ⟨⟨v5, v7, rfl⟩, e08⟩
      have hn8 := e08 _ _ hn
      refine ⟨itl_stop hn8 (by simp), h6 _ _ (seq_ fun N7 h7 => .inl ?_)⟩
      obtain ⟨nm0, hnm0⟩ : ∃ s, nms[0]? = some s := ⟨nms[0], by simp [h5]⟩
      have hix : ∀ (H' : Hp) (Q' : VK), Ex H H' → Q' (.str nm0) H' → oIx K (.ref nl) (.int 0) H' Q' := fun H' Q' e' q' => by
        rw [ix_lst (look_of_lst (e' _ _ hn)) (v := .str nm0) (by
          have := atI_nat (xs := nms.map V.str) (k := 0)
          rw [show ((0 : Nat) : Int) = 0 from rfl] at this
          rw [this, List.getElem?_map, hnm0]; rfl)]
        exact q'
      simp only [cFor, cIter, frzE, tSeq, tIfS, tNext, tRet, tRetN, tDrop, tAsg, tC, cVar, tOp, tCB, tCons, tNil, tTup, tLst, tIf, tAnd, tOr, tNot, cTest, cTru, oTru, cAnd, cOr, cNot, cUn, cChain, gName, cTupG, gCons, gNil, gSub, oLt, oLe, oGt, oGe, oIs, oIsNot, oSub, oMul, oFdiv, oMod, oPow, cPar, cPar3, cAug, tDNewK, cCall, cAttr, frzE, List.mem_singleton, List.lookup_cons_self, List.getElem?_cons_zero, List.getElem?_cons_succ, List.set_cons_zero, List.set_cons_succ, Option.some.injEq, reduceCtorEq, if_true, if_false, Bool.true_eq_false, Bool.false_eq_true, decide_eq_true_eq, ite_true, ite_false, ↓reduceIte, List.length_cons, List.length_nil, true_and, and_true, exists_eq_left', exists_eq_left, List.cons.injEq]
      refine hix _ _ e08 ⟨by simp only [sizeLine_eq]; omega, fun a1 ha1 => ?_⟩
      have x1 : Ex H (upd H8 a1 (.lst [.str nm0])) := e08.new (e08.none ha1)
      refine hix _ _ x1 ⟨by simp only [sizeLine_eq]; omega, fun a2 ha2 => ⟨by simp only [sizeLine_eq]; omega, fun a3 ha3 => ?_⟩⟩
      have n12 : a1 ≠ a2 := fun z => by rw [← z, upd_same] at ha2; cases ha2
      have y1 : (upd (upd H8 a1 (.lst [.str nm0])) a2 (.tup [.str nm0])) a1 = some (.lst [.str nm0]) := by rw [upd_ne n12]; exact upd_same
      have y2 : (upd (upd H8 a1 (.lst [.str nm0])) a2 (.tup [.str nm0])) a2 = some (.tup [.str nm0]) := upd_same
      have x2 : Ex H (upd (upd H8 a1 (.lst [.str nm0])) a2 (.tup [.str nm0])) := x1.new (x1.none ha2)
      have x3 : Ex H (upd (upd (upd H8 a1 (.lst [.str nm0])) a2 (.tup [.str nm0])) a3 (.lst [.non, .int 0, .str "", .str "A", .ref a1, .ref a2, .bl true])) := x2.new (x2.none ha3)
      have y1' := (Ex.refl.new ha3 (o := .lst [.non, .int 0, .str "", .str "A", .ref a1, .ref a2, .bl true])) _ _ y1
      have y2' := (Ex.refl.new ha3 (o := .lst [.non, .int 0, .str "", .str "A", .ref a1, .ref a2, .bl true])) _ _ y2
      have y3 : (upd (upd (upd H8 a1 (.lst [.str nm0])) a2 (.tup [.str nm0])) a3 (.lst [.non, .int 0, .str "", .str "A", .ref a1, .ref a2, .bl true])) a3 = some (.lst [.non, .int 0, .str "", .str "A", .ref a1, .ref a2, .bl true]) := upd_same
      simp only [upd_same, look_of_lst upd_same]
      generalize (upd (upd (upd H8 a1 (.lst [.str nm0])) a2 (.tup [.str nm0])) a3 (.lst [.non, .int 0, .str "", .str "A", .ref a1, .ref a2, .bl true])) = Hx at x3 y1' y2' y3 ⊢
      have key : ∀ (j : Nat) x H' (Q' : VK) (E' : XK), ([.non, .int 0, .str "", .str "A", .ref a1, .ref a2, .bl true] : List V)[j]? = some x → Ex Hx H' → (∀ H2, Ex H' H2 → Q' (.bl false) H2) → SP K (n+4) "Wrongs.passes" [.ref p, x] H' Q' E' := by
        intro j x H' Q' E' hj e' hq'
        match j, hj with
        | 0, hj => cases hj; exact s_passes_o rfl (kb_o "NoneType" (by simp)) (hq' _ Ex.refl)
        | 1, hj => cases hj; exact s_passes_o rfl (kb_o "int" (by simp)) (hq' _ Ex.refl)
        | 2, hj => cases hj; exact s_passes_bad (by decide) nm_bad1 hq'
        | 3, hj => cases hj; exact s_passes_bad (by decide) nm_bad2 hq'
        | 4, hj => cases hj; exact s_passes_o (ty_lst (look_of_lst (e' _ _ y1'))) (kb_o "list" (by simp)) (hq' _ Ex.refl)
        | 5, hj => cases hj; exact s_passes_o (ty_tup (look_of_tup (e' _ _ y2'))) (kb_o "tuple" (by simp)) (hq' _ Ex.refl)
        | 6, hj => cases hj; exact s_passes_o rfl (kb_o "bool" (by simp)) (hq' _ Ex.refl)
        | j + 7, hj => simp at hj
      refine lp_inv (n := 7) (fun j σ H' => (∃ v6, σ = [some (.ref p), some (.ref e), some (.ref nl), some (.ref q), some (.ref D), v5, v6, v7]) ∧ Ex Hx H') ?_ ?_ ⟨⟨_, rfl⟩, Ex.refl⟩
      · rintro σ H9 ⟨⟨v6, rfl⟩, e9⟩
        refine ⟨itl_stop (e9 _ _ y3) (by simp), h7 _ _ ?_⟩
        have e09 := x3.trans e9
        simp only [tRet, cCall, tSeq, tIfS, tNext, tRet, tRetN, tDrop, tAsg, tC, cVar, tOp, tCB, tCons, tNil, tTup, tLst, tIf, tAnd, tOr, tNot, cTest, cTru, oTru, cAnd, cOr, cNot, cUn, cChain, gName, cTupG, gCons, gNil, gSub, oLt, oLe, oGt, oGe, oIs, oIsNot, oSub, oMul, oFdiv, oMod, oPow, cPar, cPar3, cAug, tDNewK, cCall, cAttr, frzE, List.mem_singleton, List.lookup_cons_self, List.getElem?_cons_zero, List.getElem?_cons_succ, List.set_cons_zero, List.set_cons_succ, Option.some.injEq, reduceCtorEq, if_true, if_false, Bool.true_eq_false, Bool.false_eq_true, decide_eq_true_eq, ite_true, ite_false, ↓reduceIte, List.length_cons, List.length_nil, true_and, and_true, exists_eq_left', exists_eq_left, List.cons.injEq]
        refine mC_own (c_told_0 K _) ?_ fun P P' hh q => mono_var hh q
        try simp only [tSeq, tIfS, tNext, tRet, tRetN, tDrop, tAsg, tC, cVar, tOp, tCB, tCons, tNil, tTup, tLst, tIf, tAnd, tOr, tNot, cTest, cTru, oTru, cAnd, cOr, cNot, cUn, cChain, gName, cTupG, gCons, gNil, gSub, oLt, oLe, oGt, oGe, oIs, oIsNot, oSub, oMul, oFdiv, oMod, oPow, cPar, cPar3, cAug, tDNewK, cCall, cAttr, frzE, List.mem_singleton, List.lookup_cons_self, List.getElem?_cons_zero, List.getElem?_cons_succ, List.set_cons_zero, List.set_cons_succ, Option.some.injEq, reduceCtorEq, if_true, if_false, Bool.true_eq_false, Bool.false_eq_true, decide_eq_true_eq, ite_true, ite_false, ↓reduceIte, List.length_cons, List.length_nil, true_and, and_true, exists_eq_left', exists_eq_left, List.cons.injEq]
        refine ⟨p, dx, _, rfl, e09 _ _ hp, lk1 (by decide +kernel), ?_⟩
        try simp only [tSeq, tIfS, tNext, tRet, tRetN, tDrop, tAsg, tC, cVar, tOp, tCB, tCons, tNil, tTup, tLst, tIf, tAnd, tOr, tNot, cTest, cTru, oTru, cAnd, cOr, cNot, cUn, cChain, gName, cTupG, gCons, gNil, gSub, oLt, oLe, oGt, oGe, oIs, oIsNot, oSub, oMul, oFdiv, oMod, oPow, cPar, cPar3, cAug, tDNewK, cCall, cAttr, frzE, List.mem_singleton, List.lookup_cons_self, List.getElem?_cons_zero, List.getElem?_cons_succ, List.set_cons_zero, List.set_cons_succ, Option.some.injEq, reduceCtorEq, if_true, if_false, Bool.true_eq_false, Bool.false_eq_true, decide_eq_true_eq, ite_true, ite_false, ↓reduceIte, List.length_cons, List.length_nil, true_and, and_true, exists_eq_left', exists_eq_left, List.cons.injEq]
        refine s_told (W.ex e09) (by omega) nd fun tsa qa Ha hta ea hqa Wa => ?_
        refine s_law_told ((R.ex e09).ex ea) (by omega) nd fun usa qb Hb hub eb hqb Wb => ?_
        obtain rfl := hta.uniq hub
        have nqa : qa ≠ qb := fun z => by
          obtain ⟨_, ee, _⟩ := Wa
          rw [z, hqb] at ee; cases ee
        exact s_alike_dict (Wa.ex eb) Wb nqa (by rw [told_len hta]; omega) (ndt _ hta) (okt _ hta) fun Hc ec => h Hc (((e09.trans ea).trans eb).trans ec)
      · rintro j σ H9 hj ⟨⟨v6, rfl⟩, e9⟩ R' hR
        refine ⟨itl_go (e9 _ _ y3) (by simpa using hj), ?_⟩
        intro x H10 hy
        obtain ⟨rfl, hx⟩ := itl_yld (e9 _ _ y3) hy
        refine ifS_ fun A2 B2 hA2 hB2 => ?_
        simp only [tNot, cTru, cCall, tSeq, tIfS, tNext, tRet, tRetN, tDrop, tAsg, tC, cVar, tOp, tCB, tCons, tNil, tTup, tLst, tIf, tAnd, tOr, tNot, cTest, cTru, oTru, cAnd, cOr, cNot, cUn, cChain, gName, cTupG, gCons, gNil, gSub, oLt, oLe, oGt, oGe, oIs, oIsNot, oSub, oMul, oFdiv, oMod, oPow, cPar, cPar3, cAug, tDNewK, cCall, cAttr, frzE, List.mem_singleton, List.lookup_cons_self, List.getElem?_cons_zero, List.getElem?_cons_succ, List.set_cons_zero, List.set_cons_succ, Option.some.injEq, reduceCtorEq, if_true, if_false, Bool.true_eq_false, Bool.false_eq_true, decide_eq_true_eq, ite_true, ite_false, ↓reduceIte, List.length_cons, List.length_nil, true_and, and_true, exists_eq_left', exists_eq_left, List.cons.injEq]
        refine mC_own (c_passes_1 K _) ?_ fun P P' hh q => mono_var hh q
        try simp only [tSeq, tIfS, tNext, tRet, tRetN, tDrop, tAsg, tC, cVar, tOp, tCB, tCons, tNil, tTup, tLst, tIf, tAnd, tOr, tNot, cTest, cTru, oTru, cAnd, cOr, cNot, cUn, cChain, gName, cTupG, gCons, gNil, gSub, oLt, oLe, oGt, oGe, oIs, oIsNot, oSub, oMul, oFdiv, oMod, oPow, cPar, cPar3, cAug, tDNewK, cCall, cAttr, frzE, List.mem_singleton, List.lookup_cons_self, List.getElem?_cons_zero, List.getElem?_cons_succ, List.set_cons_zero, List.set_cons_succ, Option.some.injEq, reduceCtorEq, if_true, if_false, Bool.true_eq_false, Bool.false_eq_true, decide_eq_true_eq, ite_true, ite_false, ↓reduceIte, List.length_cons, List.length_nil, true_and, and_true, exists_eq_left', exists_eq_left, List.cons.injEq]
        refine ⟨p, dx, _, rfl, e9 _ _ (x3 _ _ hp), lk1 (by decide +kernel), ?_⟩
        try simp only [tSeq, tIfS, tNext, tRet, tRetN, tDrop, tAsg, tC, cVar, tOp, tCB, tCons, tNil, tTup, tLst, tIf, tAnd, tOr, tNot, cTest, cTru, oTru, cAnd, cOr, cNot, cUn, cChain, gName, cTupG, gCons, gNil, gSub, oLt, oLe, oGt, oGe, oIs, oIsNot, oSub, oMul, oFdiv, oMod, oPow, cPar, cPar3, cAug, tDNewK, cCall, cAttr, frzE, List.mem_singleton, List.lookup_cons_self, List.getElem?_cons_zero, List.getElem?_cons_succ, List.set_cons_zero, List.set_cons_succ, Option.some.injEq, reduceCtorEq, if_true, if_false, Bool.true_eq_false, Bool.false_eq_true, decide_eq_true_eq, ite_true, ite_false, ↓reduceIte, List.length_cons, List.length_nil, true_and, and_true, exists_eq_left', exists_eq_left, List.cons.injEq]
        refine key j x _ _ _ hx e9 fun H11 e11 => ?_
        refine s_alike_bl ?_
        simp only [Bool.not_true, tSeq, tIfS, tNext, tRet, tRetN, tDrop, tAsg, tC, cVar, tOp, tCB, tCons, tNil, tTup, tLst, tIf, tAnd, tOr, tNot, cTest, cTru, oTru, cAnd, cOr, cNot, cUn, cChain, gName, cTupG, gCons, gNil, gSub, oLt, oLe, oGt, oGe, oIs, oIsNot, oSub, oMul, oFdiv, oMod, oPow, cPar, cPar3, cAug, tDNewK, cCall, cAttr, frzE, List.mem_singleton, List.lookup_cons_self, List.getElem?_cons_zero, List.getElem?_cons_succ, List.set_cons_zero, List.set_cons_succ, Option.some.injEq, reduceCtorEq, if_true, if_false, Bool.true_eq_false, Bool.false_eq_true, decide_eq_true_eq, ite_true, ite_false, ↓reduceIte, List.length_cons, List.length_nil, true_and, and_true, exists_eq_left', exists_eq_left, List.cons.injEq]
        exact hB2 _ (hR _ _ ⟨⟨_, rfl⟩, e9.trans e11⟩)
    · rintro j σ H8 hj ⟨⟨v5, v7, rfl⟩, e08⟩ R' hR
      have hn8 := e08 _ _ hn
      refine ⟨itl_go hn8 (by simpa using hj), ?_⟩
      intro x H9 hy
      obtain ⟨rfl, hx⟩ := itl_yld hn8 hy
      rw [List.getElem?_map] at hx
      cases ey : nms[j]? with
      | none => rw [ey] at hx; cases hx
      | some s =>
        rw [ey] at hx
        obtain rfl : V.str s = x := Option.some.inj hx
        have hs1 := hok s (List.mem_of_getElem? ey)
        have hs2 : s.length ≤ 1000 := Nat.le_trans (nm_len hs1) (by decide)
        refine seq_ fun N8 h8 => ?_
        simp only [tAsg]
        refine get_cnt (R.ex e08) rfl rfl fun H10 e10 => ?_
        have e010 := e08.trans e10
        refine h8 _ _ (ifS_ fun A2 B2 hA2 hB2 => ?_)
        simp only [tOr, tNot, cTru, cCall, tSeq, tIfS, tNext, tRet, tRetN, tDrop, tAsg, tC, cVar, tOp, tCB, tCons, tNil, tTup, tLst, tIf, tAnd, tOr, tNot, cTest, cTru, oTru, cAnd, cOr, cNot, cUn, cChain, gName, cTupG, gCons, gNil, gSub, oLt, oLe, oGt, oGe, oIs, oIsNot, oSub, oMul, oFdiv, oMod, oPow, cPar, cPar3, cAug, tDNewK, cCall, cAttr, frzE, List.mem_singleton, List.lookup_cons_self, List.getElem?_cons_zero, List.getElem?_cons_succ, List.set_cons_zero, List.set_cons_succ, Option.some.injEq, reduceCtorEq, if_true, if_false, Bool.true_eq_false, Bool.false_eq_true, decide_eq_true_eq, ite_true, ite_false, ↓reduceIte, List.length_cons, List.length_nil, true_and, and_true, exists_eq_left', exists_eq_left, List.cons.injEq]
        refine mC_own (c_passes_1 K _) ?_ fun P P' hh q => mono_var hh q
        try simp only [tSeq, tIfS, tNext, tRet, tRetN, tDrop, tAsg, tC, cVar, tOp, tCB, tCons, tNil, tTup, tLst, tIf, tAnd, tOr, tNot, cTest, cTru, oTru, cAnd, cOr, cNot, cUn, cChain, gName, cTupG, gCons, gNil, gSub, oLt, oLe, oGt, oGe, oIs, oIsNot, oSub, oMul, oFdiv, oMod, oPow, cPar, cPar3, cAug, tDNewK, cCall, cAttr, frzE, List.mem_singleton, List.lookup_cons_self, List.getElem?_cons_zero, List.getElem?_cons_succ, List.set_cons_zero, List.set_cons_succ, Option.some.injEq, reduceCtorEq, if_true, if_false, Bool.true_eq_false, Bool.false_eq_true, decide_eq_true_eq, ite_true, ite_false, ↓reduceIte, List.length_cons, List.length_nil, true_and, and_true, exists_eq_left', exists_eq_left, List.cons.injEq]
        refine ⟨p, dx, _, rfl, e010 _ _ hp, lk1 (by decide +kernel), ?_⟩
        try simp only [tSeq, tIfS, tNext, tRet, tRetN, tDrop, tAsg, tC, cVar, tOp, tCB, tCons, tNil, tTup, tLst, tIf, tAnd, tOr, tNot, cTest, cTru, oTru, cAnd, cOr, cNot, cUn, cChain, gName, cTupG, gCons, gNil, gSub, oLt, oLe, oGt, oGe, oIs, oIsNot, oSub, oMul, oFdiv, oMod, oPow, cPar, cPar3, cAug, tDNewK, cCall, cAttr, frzE, List.mem_singleton, List.lookup_cons_self, List.getElem?_cons_zero, List.getElem?_cons_succ, List.set_cons_zero, List.set_cons_succ, Option.some.injEq, reduceCtorEq, if_true, if_false, Bool.true_eq_false, Bool.false_eq_true, decide_eq_true_eq, ite_true, ite_false, ↓reduceIte, List.length_cons, List.length_nil, true_and, and_true, exists_eq_left', exists_eq_left, List.cons.injEq]
        refine s_passes (W.ex e010) hs2 hs1 fun H11 e11 => ?_
        rw [show decide (3 ≤ cnt rs s) = decide (2 < cnt rs s) from decide_eq_decide.mpr (by omega)]
        refine s_alike_bl ?_
        simp only [Bool.not_true, tSeq, tIfS, tNext, tRet, tRetN, tDrop, tAsg, tC, cVar, tOp, tCB, tCons, tNil, tTup, tLst, tIf, tAnd, tOr, tNot, cTest, cTru, oTru, cAnd, cOr, cNot, cUn, cChain, gName, cTupG, gCons, gNil, gSub, oLt, oLe, oGt, oGe, oIs, oIsNot, oSub, oMul, oFdiv, oMod, oPow, cPar, cPar3, cAug, tDNewK, cCall, cAttr, frzE, List.mem_singleton, List.lookup_cons_self, List.getElem?_cons_zero, List.getElem?_cons_succ, List.set_cons_zero, List.set_cons_succ, Option.some.injEq, reduceCtorEq, if_true, if_false, Bool.true_eq_false, Bool.false_eq_true, decide_eq_true_eq, ite_true, ite_false, ↓reduceIte, List.length_cons, List.length_nil, true_and, and_true, exists_eq_left', exists_eq_left, List.cons.injEq]
        have e011 := e010.trans e11
        refine mC_own (c_count_of_1 K _) ?_ fun P P' hh q => mono_var hh q
        try simp only [tSeq, tIfS, tNext, tRet, tRetN, tDrop, tAsg, tC, cVar, tOp, tCB, tCons, tNil, tTup, tLst, tIf, tAnd, tOr, tNot, cTest, cTru, oTru, cAnd, cOr, cNot, cUn, cChain, gName, cTupG, gCons, gNil, gSub, oLt, oLe, oGt, oGe, oIs, oIsNot, oSub, oMul, oFdiv, oMod, oPow, cPar, cPar3, cAug, tDNewK, cCall, cAttr, frzE, List.mem_singleton, List.lookup_cons_self, List.getElem?_cons_zero, List.getElem?_cons_succ, List.set_cons_zero, List.set_cons_succ, Option.some.injEq, reduceCtorEq, if_true, if_false, Bool.true_eq_false, Bool.false_eq_true, decide_eq_true_eq, ite_true, ite_false, ↓reduceIte, List.length_cons, List.length_nil, true_and, and_true, exists_eq_left', exists_eq_left, List.cons.injEq]
        refine ⟨p, dx, _, rfl, e011 _ _ hp, lk1 (by decide +kernel), ?_⟩
        try simp only [tSeq, tIfS, tNext, tRet, tRetN, tDrop, tAsg, tC, cVar, tOp, tCB, tCons, tNil, tTup, tLst, tIf, tAnd, tOr, tNot, cTest, cTru, oTru, cAnd, cOr, cNot, cUn, cChain, gName, cTupG, gCons, gNil, gSub, oLt, oLe, oGt, oGe, oIs, oIsNot, oSub, oMul, oFdiv, oMod, oPow, cPar, cPar3, cAug, tDNewK, cCall, cAttr, frzE, List.mem_singleton, List.lookup_cons_self, List.getElem?_cons_zero, List.getElem?_cons_succ, List.set_cons_zero, List.set_cons_succ, Option.some.injEq, reduceCtorEq, if_true, if_false, Bool.true_eq_false, Bool.false_eq_true, decide_eq_true_eq, ite_true, ite_false, ↓reduceIte, List.length_cons, List.length_nil, true_and, and_true, exists_eq_left', exists_eq_left, List.cons.injEq]
        refine s_count_of (W.ex e011) hs2 hs1 fun H12 e12 => ?_
        refine s_alike_int ?_
        simp only [Bool.not_true, tSeq, tIfS, tNext, tRet, tRetN, tDrop, tAsg, tC, cVar, tOp, tCB, tCons, tNil, tTup, tLst, tIf, tAnd, tOr, tNot, cTest, cTru, oTru, cAnd, cOr, cNot, cUn, cChain, gName, cTupG, gCons, gNil, gSub, oLt, oLe, oGt, oGe, oIs, oIsNot, oSub, oMul, oFdiv, oMod, oPow, cPar, cPar3, cAug, tDNewK, cCall, cAttr, frzE, List.mem_singleton, List.lookup_cons_self, List.getElem?_cons_zero, List.getElem?_cons_succ, List.set_cons_zero, List.set_cons_succ, Option.some.injEq, reduceCtorEq, if_true, if_false, Bool.true_eq_false, Bool.false_eq_true, decide_eq_true_eq, ite_true, ite_false, ↓reduceIte, List.length_cons, List.length_nil, true_and, and_true, exists_eq_left', exists_eq_left, List.cons.injEq]
        exact hB2 _ (hR _ _ ⟨⟨_, _, rfl⟩, e011.trans e12⟩)
  · rintro j H6 hj ⟨e6, hD6⟩ R' hR
    have el6 := e6 l _ upd_same
    refine ⟨itl_go el6 (by simpa using hj), ?_⟩
    intro x H7 hy
    obtain ⟨rfl, hx⟩ := itl_yld el6 hy
    rw [List.getElem?_map] at hx
    cases ey : ys[j]? with
    | none => rw [ey] at hx; cases hx
    | some s =>
      rw [ey] at hx
      obtain rfl : V.str s = x := Option.some.inj hx
      refine ⟨rfl, ?_⟩
      have ee6 := e6 e _ (by rw [upd_ne nel]; exact ekv5)
      have r6 : RR H7 kv5 rs := rkv5.tp (((Ex.refl.new hl).trans e6).tp)
      have hm' : s ∈ rs.map (·.1) := py.mem_iff.mp (List.mem_of_getElem? ey)
      obtain ⟨pr, hpr⟩ := rget_mem hm'
      rcases r6.get s with ⟨_, b⟩ | ⟨t, c, q', a, b, et⟩
      · rw [hpr] at b; cases b
      have ets : ts[j]? = some (s, c, q') := by
        rw [← ez]; unfold ordr; rw [List.getElem?_map, ey]; simp [b]
      obtain ⟨k1, k2, k3, k4, k5⟩ := gt _ (List.mem_of_getElem? ets)
      dsimp only at k1 k2 k3 k4 k5
      have a1 := num_len k2 k3
      have a2 := num_len k4 k5
      have e1' : (" " : Str).length = 1 := rfl
      have sz : (1000 : Nat) < sizeLine := small1000 (Nat.le_refl _)
      simp only [tYes, wipe, if_true, tSeq, tIfS, tNext, tRet, tRetN, tDrop, tAsg, tC, cVar, tOp, tCB, tCons, tNil, tTup, tLst, tIf, tAnd, tOr, tNot, cTest, cTru, oTru, cAnd, cOr, cNot, cUn, cChain, gName, cTupG, gCons, gNil, gSub, oLt, oLe, oGt, oGe, oIs, oIsNot, oSub, oMul, oFdiv, oMod, oPow, cPar, cPar3, cAug, tDNewK, cCall, cAttr, frzE, List.mem_singleton, List.lookup_cons_self, List.getElem?_cons_zero, List.getElem?_cons_succ, List.set_cons_zero, List.set_cons_succ, Option.some.injEq, reduceCtorEq, if_true, if_false, Bool.true_eq_false, Bool.false_eq_true, decide_eq_true_eq, ite_true, ite_false, ↓reduceIte, List.length_cons, List.length_nil, true_and, and_true, exists_eq_left', exists_eq_left, List.cons.injEq]
      simp only [oAdd]
      refine ⟨by omega, ?_⟩
      rw [ix_dS ee6 a, ix_tup (look_of_tup et) (v := .int c) rfl]
      simp only [bStrG, ins_int, bStrOf, oAdd]
      refine ⟨num_log k2 k3, by simp only [strLen_append, e1']; omega, by simp only [strLen_append, e1']; omega, ?_⟩
      rw [ix_dS ee6 a, ix_tup (look_of_tup et) (v := .int q') rfl]
      simp only [bStrG, ins_int, bStrOf, oAdd]
      refine ⟨num_log k4 k5, by simp only [strLen_append, e1']; omega, ?_⟩
      refine ⟨_, hD6, ?_, hR _ ⟨?_, ?_⟩⟩
      · rw [List.length_map, List.length_map, List.length_take]
        have := told_len ht
        exact small1000 (by omega)
      · intro b' o eb
        have hb : b' ≠ D := fun z => by rw [z, hD] at eb; cases eb
        rw [upd_ne hb]; exact e6 b' o eb
      · rw [upd_same, List.take_add_one, ets]
        simp [rowT]
end
end WR.L

set_option Elab.async false
set_option linter.all false
set_option maxRecDepth 100000
set_option maxHeartbeats 1000000
namespace WR.L
open PySem PySem.Spec PyProof.Rows L2
section
variable {K : PySem.W.Frag} {n : Nat} {H : Hp} {Q : VK} {E : XK}
/-- letters alone -/
def LS (s : Str) : Prop := ∀ c ∈ s.cps.toList, c ∈ lets
theorem app_cps (a b : Str) : (a ++ b).cps.toList = a.cps.toList ++ b.cps.toList := by
  show (a.cps ++ b.cps).toList = _
  simp
theorem len_cps (a : Str) : a.length = a.cps.toList.length := by simp [Str.length]
theorem LS.app {a b : Str} (h : LS a) (k : LS b) : LS (a ++ b) := fun c hc => by
  rw [app_cps, List.mem_append] at hc
  exact hc.elim (h c) (k c)
theorem LS.one {c : Nat} (h : c ∈ lets) : LS ⟨#[c]⟩ := fun d hd => by
  have : d = c := by simpa using hd
  rw [this]; exact h
theorem LS.cut {a : Str} {lo hi : Option Int} (h : LS a) : LS (cutS a lo hi) := fun c hc => by
  unfold cutS at hc
  exact h c (List.mem_of_mem_drop (List.mem_of_mem_take (by simpa using hc)))
theorem LS.nm {s : Str} (h : LS s) (h1 : 1 ≤ s.length) (h2 : s.length ≤ 8) : isNm s = true := by
  unfold isNm
  simp only [h1, h2, decide_true, Bool.true_and, List.all_eq_true, decide_eq_true_eq]
  exact h
theorem cut_len {a : Str} {x y : Nat} (hx : x ≤ y) (hy : y ≤ a.length) : (cutS a (some (x : Int)) (some (y : Int))).length = y - x := by
  rw [len_cps]
  unfold cutS
  rw [HT.sIx_nat, HT.sIx_nat]
  have := len_cps a
  simp only [List.toList_toArray, List.length_take, List.length_drop]
  omega
theorem cut_len0 {a : Str} {y : Nat} (hy : y ≤ a.length) : (cutS a none (some (y : Int))).length = y := by
  rw [len_cps]
  unfold cutS
  rw [HT.sIx_nat, HT.sIx_none]
  have := len_cps a
  simp only [List.toList_toArray, List.length_take, List.length_drop]
  omega
theorem join_one (cs : List Nat) : (Txt.join "" (cs.map fun c => (⟨#[c]⟩ : Str))).cps.toList = cs := by
  show (Builtin.Str.glued "" (cs.map fun c => (⟨#[c]⟩ : Str))).cps.toList = cs
  rw [StrLaws.glued_eq_join]
  induction cs with
  | nil => rfl
  | cons a r ih =>
    cases r with
    | nil => rfl
    | cons b r =>
      show (((⟨#[a]⟩ : Str) ++ "") ++ Str.join "" (List.map (fun c => (⟨#[c]⟩ : Str)) (b :: r))).cps.toList = _
      rw [app_cps, app_cps, ih]
      rfl
/-- a letter by a number -/
theorem letter_at {i : Int} (h : ∀ c ∈ lets, Q (.str ⟨#[c]⟩) H) : oIx K (.str "abcdefghijklmnopqrstuvwxyz") (.int (i % 26)) H Q := by
  have m := mod_b (a := i) (m := 26) (by decide)
  obtain ⟨k, hk⟩ := Int.eq_ofNat_of_zero_le m.1
  have hk2 : k < 26 := by omega
  have hl : lets.length = 26 := by decide +kernel
  simp only [oIx]
  refine ⟨by rw [show (("abcdefghijklmnopqrstuvwxyz" : Str)).length = 26 from by decide +kernel]; exact Nat.le_of_lt (small1000 (by decide)), ?_⟩
  have e : atI (("abcdefghijklmnopqrstuvwxyz" : Str)).cps.toList (i % 26) = some (lets[k]'(by omega)) := by
    rw [hk]
    rw [show ((("abcdefghijklmnopqrstuvwxyz" : Str)).cps.toList) = lets from rfl]
    rw [atI_nat]
    exact List.getElem?_eq_getElem (by omega)
  rw [e]
  exact h _ (List.getElem_mem _)
theorem s_law_names {cell : Int} (h : ∀ (nms : List Str) l H', nms.length = 5 → (∀ s ∈ nms, isNm s = true) → Ex H H' → H' l = some (.lst (nms.map V.str)) → H l = none → Q (.ref l) H') : SP K (n+2) "_law_names" [.int cell, .int 5] H Q E := by
  refine o__law_names ?_
  unfold r__law_names
  refine seq_ fun N1 h1 => ?_
  simp only [tAsg, cCall, tSeq, tIfS, tNext, tRet, tRetN, tDrop, tAsg, tC, cVar, tOp, tCB, tCons, tNil, tTup, tLst, tIf, tAnd, tOr, tNot, cTest, cTru, oTru, cAnd, cOr, cNot, cUn, cChain, gName, cTupG, gCons, gNil, gSub, oLt, oLe, oGt, oGe, oIs, oIsNot, oSub, oMul, oFdiv, oMod, oPow, cPar, cPar3, cAug, tDNewK, cCall, cAttr, frzE, List.mem_singleton, List.lookup_cons_self, List.getElem?_cons_zero, List.getElem?_cons_succ, List.set_cons_zero, List.set_cons_succ, Option.some.injEq, reduceCtorEq, if_true, if_false, Bool.true_eq_false, Bool.false_eq_true, decide_eq_true_eq, ite_true, ite_false, ↓reduceIte, List.length_cons, List.length_nil, true_and, and_true, exists_eq_left', exists_eq_left, List.cons.injEq]
  refine s_law_row fun ns r H1 hns e1 er hrH => h1 _ _ (seq_ fun N2 h2 => ?_)
  try simp only [tSeq, tIfS, tNext, tRet, tRetN, tDrop, tAsg, tC, cVar, tOp, tCB, tCons, tNil, tTup, tLst, tIf, tAnd, tOr, tNot, cTest, cTru, oTru, cAnd, cOr, cNot, cUn, cChain, gName, cTupG, gCons, gNil, gSub, oLt, oLe, oGt, oGe, oIs, oIsNot, oSub, oMul, oFdiv, oMod, oPow, cPar, cPar3, cAug, tDNewK, cCall, cAttr, frzE, List.mem_singleton, List.lookup_cons_self, List.getElem?_cons_zero, List.getElem?_cons_succ, List.set_cons_zero, List.set_cons_succ, Option.some.injEq, reduceCtorEq, if_true, if_false, Bool.true_eq_false, Bool.false_eq_true, decide_eq_true_eq, ite_true, ite_false, ↓reduceIte, List.length_cons, List.length_nil, true_and, and_true, exists_eq_left', exists_eq_left, List.cons.injEq]
  refine h2 _ _ (seq_ fun N3 h3 => ?_)
  simp only [tAsg]
  refine mC_blt ?_ fun P P' hh q => mono_C hh q
  refine ⟨rfl, "str", rfl, _, b_join, ?_⟩
  simp only [tCons, tNil]
  refine .inl ?_
  simp only [cLc, cIter, frzE, tSl, cPart, oSl, look_of_lst er, tSeq, tIfS, tNext, tRet, tRetN, tDrop, tAsg, tC, cVar, tOp, tCB, tCons, tNil, tTup, tLst, tIf, tAnd, tOr, tNot, cTest, cTru, oTru, cAnd, cOr, cNot, cUn, cChain, gName, cTupG, gCons, gNil, gSub, oLt, oLe, oGt, oGe, oIs, oIsNot, oSub, oMul, oFdiv, oMod, oPow, cPar, cPar3, cAug, tDNewK, cCall, cAttr, frzE, List.mem_singleton, List.lookup_cons_self, List.getElem?_cons_zero, List.getElem?_cons_succ, List.set_cons_zero, List.set_cons_succ, Option.some.injEq, reduceCtorEq, if_true, if_false, Bool.true_eq_false, Bool.false_eq_true, decide_eq_true_eq, ite_true, ite_false, ↓reduceIte, List.length_cons, List.length_nil, true_and, and_true, exists_eq_left', exists_eq_left, List.cons.injEq]
  intro a ha
  simp only [upd_same, look_of_lst upd_same]
  intro D hD
  have nra : r ≠ a := ne_of_none er ha
  have haD : a ≠ D := fun z => by rw [z, upd_same] at hD; cases hD
  have row : ∀ (k : Nat), k < 24 → ∃ z : Int, ns[k]? = some z := fun k hk => ⟨ns[k], by simp [hns, hk]⟩
  have hcut : cutV (ns.map V.int) (some 2) (some 9) = ((ns.drop 2).take 7).map V.int := by
    unfold cutV
    have e2 := HT.sIx_nat (ns.map V.int).length 0 2
    have e9 := HT.sIx_nat (ns.map V.int).length (ns.map V.int).length 9
    rw [show (some (2 : Int)) = some ((2 : Nat) : Int) from rfl, show (some (9 : Int)) = some ((9 : Nat) : Int) from rfl, e2, e9, List.length_map, hns]
    rw [← List.map_drop, ← List.map_take]
    rfl
  rw [hcut] at hD ⊢
  have h7 : ((ns.drop 2).take 7).length = 7 := by
    rw [List.length_take, List.length_drop, hns]
    rfl
  generalize (ns.drop 2).take 7 = ps at hD h7 ⊢
  refine lpc_inv (n := 7) (fun j H' => Ex (upd H1 a (.lst (ps.map V.int))) H' ∧ ∃ cs : List Nat, cs.length = j ∧ (∀ c ∈ cs, c ∈ lets) ∧ H' D = some (.lst ((cs.map fun c => (⟨#[c]⟩ : Str)).map V.str))) ?_ ?_ ⟨Ex.refl.new hD, [], rfl, (fun c hc => nomatch hc), upd_same⟩
  · rintro H2 ⟨e2, cs, hc7, hcl, hD2⟩
    refine ⟨itl_stop (e2 _ _ upd_same) (by rw [List.length_map]; omega), ?_⟩
    have e02 : Ex H H2 := fun b o eb => e2 b o (by rw [upd_ne (ne_of_none (e1 b o eb) ha)]; exact e1 b o eb)
    have er2 := e2 r _ (by rw [upd_ne nra]; exact er)
    refine ⟨cs.map fun c => (⟨#[c]⟩ : Str), .inl (look_of_lst hD2), ?_, h3 _ _ (seq_ fun N4 h4 => ?_)⟩
    · have := sum_le (l := cs.map fun c => (⟨#[c]⟩ : Str)) (b := 1) fun s hs => by
        obtain ⟨c, _, rfl⟩ := List.mem_map.mp hs
        exact Nat.le_refl _
      have e : ("" : Str).length = 0 := rfl
      rw [e]
      rw [List.length_map] at this ⊢
      omega
    have hst := join_one cs
    generalize Txt.join "" (cs.map fun c => (⟨#[c]⟩ : Str)) = stem at hst ⊢
    have lst : LS stem := fun c hc => hcl c (by rw [← hst]; exact hc)
    have len7 : stem.length = 7 := by rw [len_cps, hst, hc7]
    have rowQ : ∀ (k : Nat) (H' : Hp) (Q' : VK), k < 24 → Ex H2 H' → (∀ z : Int, Q' (.int z) H') → oIx K (.ref r) (.int k) H' Q' := fun k H' Q' hk e' q' => by
      obtain ⟨z, hz⟩ := row k hk
      rw [ix_lst (look_of_lst (e' _ _ er2)) (v := .int z) (by rw [atI_nat, List.getElem?_map, hz]; rfl)]
      exact q' z
    simp only [tSeq, tIfS, tNext, tRet, tRetN, tDrop, tAsg, tC, cVar, tOp, tCB, tCons, tNil, tTup, tLst, tIf, tAnd, tOr, tNot, cTest, cTru, oTru, cAnd, cOr, cNot, cUn, cChain, gName, cTupG, gCons, gNil, gSub, oLt, oLe, oGt, oGe, oIs, oIsNot, oSub, oMul, oFdiv, oMod, oPow, cPar, cPar3, cAug, tDNewK, cCall, cAttr, frzE, List.mem_singleton, List.lookup_cons_self, List.getElem?_cons_zero, List.getElem?_cons_succ, List.set_cons_zero, List.set_cons_succ, Option.some.injEq, reduceCtorEq, if_true, if_false, Bool.true_eq_false, Bool.false_eq_true, decide_eq_true_eq, ite_true, ite_false, ↓reduceIte, List.length_cons, List.length_nil, true_and, and_true, exists_eq_left', exists_eq_left, List.cons.injEq]
    refine rowQ 9 _ _ (by decide) Ex.refl fun z9 => ⟨by decide, ?_⟩
    have m8 := mod_b (a := z9) (m := 8) (by decide)
    obtain ⟨at_, hat⟩ := Int.eq_ofNat_of_zero_le m8.1
    rw [hat]
    refine h4 _ _ (seq_ fun N5 h5 => ?_)
    simp only [tSeq, tIfS, tNext, tRet, tRetN, tDrop, tAsg, tC, cVar, tOp, tCB, tCons, tNil, tTup, tLst, tIf, tAnd, tOr, tNot, cTest, cTru, oTru, cAnd, cOr, cNot, cUn, cChain, gName, cTupG, gCons, gNil, gSub, oLt, oLe, oGt, oGe, oIs, oIsNot, oSub, oMul, oFdiv, oMod, oPow, cPar, cPar3, cAug, tDNewK, cCall, cAttr, frzE, List.mem_singleton, List.lookup_cons_self, List.getElem?_cons_zero, List.getElem?_cons_succ, List.set_cons_zero, List.set_cons_succ, Option.some.injEq, reduceCtorEq, if_true, if_false, Bool.true_eq_false, Bool.false_eq_true, decide_eq_true_eq, ite_true, ite_false, ↓reduceIte, List.length_cons, List.length_nil, true_and, and_true, exists_eq_left', exists_eq_left, List.cons.injEq]
    refine ⟨by simp only [sizeLine_eq]; omega, fun b hb => ?_⟩
    refine rowQ 10 _ _ (by decide) (Ex.refl.new hb) fun z10 => ⟨by decide, ?_⟩
    have m4 := mod_b (a := z10) (m := 4) (by decide)
    obtain ⟨w, hw⟩ := Int.eq_ofNat_of_zero_le m4.1
    rw [hw]
    obtain ⟨step, hstep, hsb⟩ : ∃ st : Int, atI ([.int 7, .int 19, .int 3, .int 23] : List V) (w : Int) = some (.int st) ∧ st.natAbs < 100 := by
      rw [atI_nat]
      have hw4 : w < 4 := by omega
      match w, hw4 with
      | 0, _ => exact ⟨7, rfl, by decide⟩
      | 1, _ => exact ⟨19, rfl, by decide⟩
      | 2, _ => exact ⟨3, rfl, by decide⟩
      | 3, _ => exact ⟨23, rfl, by decide⟩
    rw [ix_lst (look_of_lst upd_same) (v := .int step) hstep]
    refine h5 _ _ (seq_ fun N6 h6 => ?_)
    simp only [tSeq, tIfS, tNext, tRet, tRetN, tDrop, tAsg, tC, cVar, tOp, tCB, tCons, tNil, tTup, tLst, tIf, tAnd, tOr, tNot, cTest, cTru, oTru, cAnd, cOr, cNot, cUn, cChain, gName, cTupG, gCons, gNil, gSub, oLt, oLe, oGt, oGe, oIs, oIsNot, oSub, oMul, oFdiv, oMod, oPow, cPar, cPar3, cAug, tDNewK, cCall, cAttr, frzE, List.mem_singleton, List.lookup_cons_self, List.getElem?_cons_zero, List.getElem?_cons_succ, List.set_cons_zero, List.set_cons_succ, Option.some.injEq, reduceCtorEq, if_true, if_false, Bool.true_eq_false, Bool.false_eq_true, decide_eq_true_eq, ite_true, ite_false, ↓reduceIte, List.length_cons, List.length_nil, true_and, and_true, exists_eq_left', exists_eq_left, List.cons.injEq]
    refine ⟨by simp only [sizeLine_eq]; omega, fun f hf => h6 _ _ (seq_ fun N7 h7 => .inl ?_)⟩
    have hf2 : H2 f = none := (Ex.refl.new hb).none hf
    have xc : Ex H2 (upd (upd H2 b (.lst [.int 7, .int 19, .int 3, .int 23])) f (.lst [])) := (Ex.refl.new hb).new hf2
    have hfc : (upd (upd H2 b (.lst [.int 7, .int 19, .int 3, .int 23])) f (.lst [])) f = some (.lst []) := upd_same
    generalize upd (upd H2 b (.lst [.int 7, .int 19, .int 3, .int 23])) f (.lst []) = Hc at xc hfc ⊢
    have hat8 : at_ < 8 := by omega
    simp only [cFor, cRng1, tSeq, tIfS, tNext, tRet, tRetN, tDrop, tAsg, tC, cVar, tOp, tCB, tCons, tNil, tTup, tLst, tIf, tAnd, tOr, tNot, cTest, cTru, oTru, cAnd, cOr, cNot, cUn, cChain, gName, cTupG, gCons, gNil, gSub, oLt, oLe, oGt, oGe, oIs, oIsNot, oSub, oMul, oFdiv, oMod, oPow, cPar, cPar3, cAug, tDNewK, cCall, cAttr, frzE, List.mem_singleton, List.lookup_cons_self, List.getElem?_cons_zero, List.getElem?_cons_succ, List.set_cons_zero, List.set_cons_succ, Option.some.injEq, reduceCtorEq, if_true, if_false, Bool.true_eq_false, Bool.false_eq_true, decide_eq_true_eq, ite_true, ite_false, ↓reduceIte, List.length_cons, List.length_nil, true_and, and_true, exists_eq_left', exists_eq_left, List.cons.injEq]
    refine ⟨by decide, ?_⟩
    have ltr : ∀ (i : Int) (H' : Hp) (Q' : VK), (∀ c ∈ lets, Q' (.str ⟨#[c]⟩) H') → oIx K (.str "abcdefghijklmnopqrstuvwxyz") (.int (i % 26)) H' Q' := fun i H' Q' hq => letter_at hq
    have sz7 : stem.length ≤ sizeLine := by rw [len7]; exact Nat.le_of_lt (small1000 (by decide))
    have szl : (1000 : Nat) < sizeLine := small1000 (Nat.le_refl _)
    refine lp_inv (n := 5) (fun j σ H' => (∃ v8 v9, σ = [some (.int cell), some (.int 5), some (.ref r), some (.str "abcdefghijklmnopqrstuvwxyz"), some (.str stem), some (.int at_), some (.int step), some (.ref f), v8, v9, none]) ∧ Ex H2 H' ∧ ∃ fs : List Str, fs.length = j ∧ (∀ s ∈ fs, LS s ∧ 1 ≤ s.length ∧ s.length ≤ 8) ∧ H' f = some (.lst (fs.map V.str))) ?_ ?_ ⟨⟨_, _, rfl⟩, xc, [], rfl, (fun s hs => nomatch hs), hfc⟩
    · rintro σ H3 ⟨⟨v8, v9, rfl⟩, e3, fs, hl5, hfs, ef⟩
      refine ⟨Nat.le_refl _, h7 _ _ (seq_ fun N8 h8 => ifS_ fun A B hA hB => ?_)⟩
      have fin : ∀ (H' : Hp) (gs : List Str), gs.length = 5 → (∀ s ∈ gs, LS s ∧ 1 ≤ s.length ∧ s.length ≤ 8) → Ex H2 H' ∨ (∀ b o, b ≠ f → H2 b = some o → H' b = some o) → H' f = some (.lst (gs.map V.str)) → N8 [some (.int cell), some (.int 5), some (.ref r), some (.str "abcdefghijklmnopqrstuvwxyz"), some (.str stem), some (.int at_), some (.int step), some (.ref f), v8, v9, none] H' := by
        intro H' gs hg5 hgs hx hf'
        refine h8 _ _ ?_
        simp only [tSeq, tIfS, tNext, tRet, tRetN, tDrop, tAsg, tC, cVar, tOp, tCB, tCons, tNil, tTup, tLst, tIf, tAnd, tOr, tNot, cTest, cTru, oTru, cAnd, cOr, cNot, cUn, cChain, gName, cTupG, gCons, gNil, gSub, oLt, oLe, oGt, oGe, oIs, oIsNot, oSub, oMul, oFdiv, oMod, oPow, cPar, cPar3, cAug, tDNewK, cCall, cAttr, frzE, List.mem_singleton, List.lookup_cons_self, List.getElem?_cons_zero, List.getElem?_cons_succ, List.set_cons_zero, List.set_cons_succ, Option.some.injEq, reduceCtorEq, if_true, if_false, Bool.true_eq_false, Bool.false_eq_true, decide_eq_true_eq, ite_true, ite_false, ↓reduceIte, List.length_cons, List.length_nil, true_and, and_true, exists_eq_left', exists_eq_left, List.cons.injEq]
        refine h gs f H' hg5 (fun s hs => LS.nm (hgs s hs).1 (hgs s hs).2.1 (hgs s hs).2.2) (fun b' o eb => ?_) hf' (e02.none hf2)
        rcases hx with hx | hx
        · exact hx b' o (e02 b' o eb)
        · exact hx b' o (ne_of_none (e02 b' o eb) hf2) (e02 b' o eb)
      obtain ⟨s0, hs0⟩ : ∃ s, fs[0]? = some s := ⟨fs[0], by simp [hl5]⟩
      have ix0 : ∀ (Q' : VK), Q' (.str s0) H3 → oIx K (.ref f) (.int 0) H3 Q' := fun Q' q' => by
        rw [ix_lst (look_of_lst ef) (v := .str s0) (by
          have := atI_nat (xs := fs.map V.str) (k := 0)
          rw [show ((0 : Nat) : Int) = 0 from rfl] at this
          rw [this, List.getElem?_map, hs0]; rfl)]
        exact q'
      obtain ⟨l0, l1, l2⟩ := hfs s0 (List.mem_of_getElem? hs0)
      simp only [tAnd, tSeq, tIfS, tNext, tRet, tRetN, tDrop, tAsg, tC, cVar, tOp, tCB, tCons, tNil, tTup, tLst, tIf, tAnd, tOr, tNot, cTest, cTru, oTru, cAnd, cOr, cNot, cUn, cChain, gName, cTupG, gCons, gNil, gSub, oLt, oLe, oGt, oGe, oIs, oIsNot, oSub, oMul, oFdiv, oMod, oPow, cPar, cPar3, cAug, tDNewK, cCall, cAttr, frzE, List.mem_singleton, List.lookup_cons_self, List.getElem?_cons_zero, List.getElem?_cons_succ, List.set_cons_zero, List.set_cons_succ, Option.some.injEq, reduceCtorEq, if_true, if_false, Bool.true_eq_false, Bool.false_eq_true, decide_eq_true_eq, ite_true, ite_false, ↓reduceIte, List.length_cons, List.length_nil, true_and, and_true, exists_eq_left', exists_eq_left, List.cons.injEq]
      rw [if_pos (by decide : (1 : Int) < 5)]
      refine ix0 _ ?_
      rw [len_str]
      refine ⟨by omega, ?_⟩
      by_cases c8 : (s0.length : Int) < 8
      · simp only [c8, decide_true, tSeq, tIfS, tNext, tRet, tRetN, tDrop, tAsg, tC, cVar, tOp, tCB, tCons, tNil, tTup, tLst, tIf, tAnd, tOr, tNot, cTest, cTru, oTru, cAnd, cOr, cNot, cUn, cChain, gName, cTupG, gCons, gNil, gSub, oLt, oLe, oGt, oGe, oIs, oIsNot, oSub, oMul, oFdiv, oMod, oPow, cPar, cPar3, cAug, tDNewK, cCall, cAttr, frzE, List.mem_singleton, List.lookup_cons_self, List.getElem?_cons_zero, List.getElem?_cons_succ, List.set_cons_zero, List.set_cons_succ, Option.some.injEq, reduceCtorEq, if_true, if_false, Bool.true_eq_false, Bool.false_eq_true, decide_eq_true_eq, ite_true, ite_false, ↓reduceIte, List.length_cons, List.length_nil, true_and, and_true, exists_eq_left', exists_eq_left, List.cons.injEq]
        refine rowQ 0 _ _ (by decide) e3 fun z0 => ⟨by decide, ?_⟩
        refine eq_scal rfl rfl rfl ?_
        by_cases c3 : z0 % 3 = 0
        · simp only [c3, decide_true, tSeq, tIfS, tNext, tRet, tRetN, tDrop, tAsg, tC, cVar, tOp, tCB, tCons, tNil, tTup, tLst, tIf, tAnd, tOr, tNot, cTest, cTru, oTru, cAnd, cOr, cNot, cUn, cChain, gName, cTupG, gCons, gNil, gSub, oLt, oLe, oGt, oGe, oIs, oIsNot, oSub, oMul, oFdiv, oMod, oPow, cPar, cPar3, cAug, tDNewK, cCall, cAttr, frzE, List.mem_singleton, List.lookup_cons_self, List.getElem?_cons_zero, List.getElem?_cons_succ, List.set_cons_zero, List.set_cons_succ, Option.some.injEq, reduceCtorEq, if_true, if_false, Bool.true_eq_false, Bool.false_eq_true, decide_eq_true_eq, ite_true, ite_false, ↓reduceIte, List.length_cons, List.length_nil, true_and, and_true, exists_eq_left', exists_eq_left, List.cons.injEq]
          refine hA _ ?_
          simp only [tSeq, tIfS, tNext, tRet, tRetN, tDrop, tAsg, tC, cVar, tOp, tCB, tCons, tNil, tTup, tLst, tIf, tAnd, tOr, tNot, cTest, cTru, oTru, cAnd, cOr, cNot, cUn, cChain, gName, cTupG, gCons, gNil, gSub, oLt, oLe, oGt, oGe, oIs, oIsNot, oSub, oMul, oFdiv, oMod, oPow, cPar, cPar3, cAug, tDNewK, cCall, cAttr, frzE, List.mem_singleton, List.lookup_cons_self, List.getElem?_cons_zero, List.getElem?_cons_succ, List.set_cons_zero, List.set_cons_succ, Option.some.injEq, reduceCtorEq, if_true, if_false, Bool.true_eq_false, Bool.false_eq_true, decide_eq_true_eq, ite_true, ite_false, ↓reduceIte, List.length_cons, List.length_nil, true_and, and_true, exists_eq_left', exists_eq_left, List.cons.injEq]
          refine ix0 _ (rowQ 1 _ _ (by decide) e3 fun z1 => ⟨by decide, ltr _ _ _ fun c hc => ?_⟩)
          simp only [oAdd]
          have lc : (⟨#[c]⟩ : Str).length = 1 := rfl
          refine ⟨by rw [lc]; omega, ?_⟩
          have i1 : ixN (fs.map V.str).length 1 = some 1 := by rw [List.length_map, hl5]; rfl
          simp only [oSet, ef, i1]
          refine fin _ (fs.set 1 (s0 ++ ⟨#[c]⟩)) (by rw [List.length_set]; exact hl5) (fun s hs => ?_) (.inr fun b' o hb' eb => by rw [upd_ne hb']; exact e3 b' o eb) (by rw [upd_same, List.map_set])
          rcases List.mem_or_eq_of_mem_set hs with hs | rfl
          · exact hfs s hs
          · refine ⟨l0.app (LS.one hc), ?_, ?_⟩
            · rw [strLen_append, lc]; omega
            · rw [strLen_append, lc]; omega
        · simp only [c3, decide_false, V.int.injEq, tSeq, tIfS, tNext, tRet, tRetN, tDrop, tAsg, tC, cVar, tOp, tCB, tCons, tNil, tTup, tLst, tIf, tAnd, tOr, tNot, cTest, cTru, oTru, cAnd, cOr, cNot, cUn, cChain, gName, cTupG, gCons, gNil, gSub, oLt, oLe, oGt, oGe, oIs, oIsNot, oSub, oMul, oFdiv, oMod, oPow, cPar, cPar3, cAug, tDNewK, cCall, cAttr, frzE, List.mem_singleton, List.lookup_cons_self, List.getElem?_cons_zero, List.getElem?_cons_succ, List.set_cons_zero, List.set_cons_succ, Option.some.injEq, reduceCtorEq, if_true, if_false, Bool.true_eq_false, Bool.false_eq_true, decide_eq_true_eq, ite_true, ite_false, ↓reduceIte, List.length_cons, List.length_nil, true_and, and_true, exists_eq_left', exists_eq_left, List.cons.injEq]
          exact hB _ (by simp only [tSeq, tIfS, tNext, tRet, tRetN, tDrop, tAsg, tC, cVar, tOp, tCB, tCons, tNil, tTup, tLst, tIf, tAnd, tOr, tNot, cTest, cTru, oTru, cAnd, cOr, cNot, cUn, cChain, gName, cTupG, gCons, gNil, gSub, oLt, oLe, oGt, oGe, oIs, oIsNot, oSub, oMul, oFdiv, oMod, oPow, cPar, cPar3, cAug, tDNewK, cCall, cAttr, frzE, List.mem_singleton, List.lookup_cons_self, List.getElem?_cons_zero, List.getElem?_cons_succ, List.set_cons_zero, List.set_cons_succ, Option.some.injEq, reduceCtorEq, if_true, if_false, Bool.true_eq_false, Bool.false_eq_true, decide_eq_true_eq, ite_true, ite_false, ↓reduceIte, List.length_cons, List.length_nil, true_and, and_true, exists_eq_left', exists_eq_left, List.cons.injEq]; exact fin _ fs hl5 hfs (.inl e3) ef)
      · simp only [c8, decide_false, tSeq, tIfS, tNext, tRet, tRetN, tDrop, tAsg, tC, cVar, tOp, tCB, tCons, tNil, tTup, tLst, tIf, tAnd, tOr, tNot, cTest, cTru, oTru, cAnd, cOr, cNot, cUn, cChain, gName, cTupG, gCons, gNil, gSub, oLt, oLe, oGt, oGe, oIs, oIsNot, oSub, oMul, oFdiv, oMod, oPow, cPar, cPar3, cAug, tDNewK, cCall, cAttr, frzE, List.mem_singleton, List.lookup_cons_self, List.getElem?_cons_zero, List.getElem?_cons_succ, List.set_cons_zero, List.set_cons_succ, Option.some.injEq, reduceCtorEq, if_true, if_false, Bool.true_eq_false, Bool.false_eq_true, decide_eq_true_eq, ite_true, ite_false, ↓reduceIte, List.length_cons, List.length_nil, true_and, and_true, exists_eq_left', exists_eq_left, List.cons.injEq]
        exact hB _ (by simp only [tSeq, tIfS, tNext, tRet, tRetN, tDrop, tAsg, tC, cVar, tOp, tCB, tCons, tNil, tTup, tLst, tIf, tAnd, tOr, tNot, cTest, cTru, oTru, cAnd, cOr, cNot, cUn, cChain, gName, cTupG, gCons, gNil, gSub, oLt, oLe, oGt, oGe, oIs, oIsNot, oSub, oMul, oFdiv, oMod, oPow, cPar, cPar3, cAug, tDNewK, cCall, cAttr, frzE, List.mem_singleton, List.lookup_cons_self, List.getElem?_cons_zero, List.getElem?_cons_succ, List.set_cons_zero, List.set_cons_succ, Option.some.injEq, reduceCtorEq, if_true, if_false, Bool.true_eq_false, Bool.false_eq_true, decide_eq_true_eq, ite_true, ite_false, ↓reduceIte, List.length_cons, List.length_nil, true_and, and_true, exists_eq_left', exists_eq_left, List.cons.injEq]; exact fin _ fs hl5 hfs (.inl e3) ef)
    · rintro j σ H3 hj ⟨⟨v8, v9, rfl⟩, e3, fs, hlj, hfs, ef⟩ R hR
      refine ⟨hj, ?_⟩
      rintro x H4 ⟨rfl, rfl⟩
      have e0 : (0 + (j : Int)) = (j : Int) := by omega
      rw [e0]
      refine seq_ fun N9 h9 => ?_
      simp only [tSl, tNoPart, cPart, oSl, tSeq, tIfS, tNext, tRet, tRetN, tDrop, tAsg, tC, cVar, tOp, tCB, tCons, tNil, tTup, tLst, tIf, tAnd, tOr, tNot, cTest, cTru, oTru, cAnd, cOr, cNot, cUn, cChain, gName, cTupG, gCons, gNil, gSub, oLt, oLe, oGt, oGe, oIs, oIsNot, oSub, oMul, oFdiv, oMod, oPow, cPar, cPar3, cAug, tDNewK, cCall, cAttr, frzE, List.mem_singleton, List.lookup_cons_self, List.getElem?_cons_zero, List.getElem?_cons_succ, List.set_cons_zero, List.set_cons_succ, Option.some.injEq, reduceCtorEq, if_true, if_false, Bool.true_eq_false, Bool.false_eq_true, decide_eq_true_eq, ite_true, ite_false, ↓reduceIte, List.length_cons, List.length_nil, true_and, and_true, exists_eq_left', exists_eq_left, List.cons.injEq]
      refine ⟨sz7, rowQ 11 _ _ (by decide) e3 fun z11 => ⟨cmul_of (by omega) (by omega), ?_⟩⟩
      simp only [oAdd, tSeq, tIfS, tNext, tRet, tRetN, tDrop, tAsg, tC, cVar, tOp, tCB, tCons, tNil, tTup, tLst, tIf, tAnd, tOr, tNot, cTest, cTru, oTru, cAnd, cOr, cNot, cUn, cChain, gName, cTupG, gCons, gNil, gSub, oLt, oLe, oGt, oGe, oIs, oIsNot, oSub, oMul, oFdiv, oMod, oPow, cPar, cPar3, cAug, tDNewK, cCall, cAttr, frzE, List.mem_singleton, List.lookup_cons_self, List.getElem?_cons_zero, List.getElem?_cons_succ, List.set_cons_zero, List.set_cons_succ, Option.some.injEq, reduceCtorEq, if_true, if_false, Bool.true_eq_false, Bool.false_eq_true, decide_eq_true_eq, ite_true, ite_false, ↓reduceIte, List.length_cons, List.length_nil, true_and, and_true, exists_eq_left', exists_eq_left, List.cons.injEq]
      refine ⟨by decide, ltr _ _ _ fun c hc => ?_⟩
      have lc : (⟨#[c]⟩ : Str).length = 1 := rfl
      have lcut := cut_len0 (a := stem) (y := at_) (by omega)
      simp only [oAdd]
      refine ⟨by rw [lc, lcut]; omega, ?_⟩
      refine h9 _ _ ?_
      simp only [tDrop]
      refine mC_blt ?_ fun P P' hh q => mono_var hh q
      simp only [tSeq, tIfS, tNext, tRet, tRetN, tDrop, tAsg, tC, cVar, tOp, tCB, tCons, tNil, tTup, tLst, tIf, tAnd, tOr, tNot, cTest, cTru, oTru, cAnd, cOr, cNot, cUn, cChain, gName, cTupG, gCons, gNil, gSub, oLt, oLe, oGt, oGe, oIs, oIsNot, oSub, oMul, oFdiv, oMod, oPow, cPar, cPar3, cAug, tDNewK, cCall, cAttr, frzE, List.mem_singleton, List.lookup_cons_self, List.getElem?_cons_zero, List.getElem?_cons_succ, List.set_cons_zero, List.set_cons_succ, Option.some.injEq, reduceCtorEq, if_true, if_false, Bool.true_eq_false, Bool.false_eq_true, decide_eq_true_eq, ite_true, ite_false, ↓reduceIte, List.length_cons, List.length_nil, true_and, and_true, exists_eq_left', exists_eq_left, List.cons.injEq]
      refine ⟨ins_lst (K := K) (look_of_lst ef), "list", tyB_lst (K := K) (look_of_lst ef), _, b_append, ?_⟩
      simp only [tSl, cPart, oSl, oAdd, tSeq, tIfS, tNext, tRet, tRetN, tDrop, tAsg, tC, cVar, tOp, tCB, tCons, tNil, tTup, tLst, tIf, tAnd, tOr, tNot, cTest, cTru, oTru, cAnd, cOr, cNot, cUn, cChain, gName, cTupG, gCons, gNil, gSub, oLt, oLe, oGt, oGe, oIs, oIsNot, oSub, oMul, oFdiv, oMod, oPow, cPar, cPar3, cAug, tDNewK, cCall, cAttr, frzE, List.mem_singleton, List.lookup_cons_self, List.getElem?_cons_zero, List.getElem?_cons_succ, List.set_cons_zero, List.set_cons_succ, Option.some.injEq, reduceCtorEq, if_true, if_false, Bool.true_eq_false, Bool.false_eq_true, decide_eq_true_eq, ite_true, ite_false, ↓reduceIte, List.length_cons, List.length_nil, true_and, and_true, exists_eq_left', exists_eq_left, List.cons.injEq]
      have hj8 : ((j : Int) % 8) = (j : Int) := Int.emod_eq_of_lt (by omega) (by omega)
      rw [hj8]
      refine ⟨by decide, ?_⟩
      rw [show ((12 : Int) + (j : Int)) = ((12 + j : Nat) : Int) from by omega]
      refine rowQ (12 + j) _ _ (by omega) e3 fun zk => ⟨by omega, ?_⟩
      have mk := mod_b (a := zk) (m := 8 - (at_ : Int)) (by omega)
      obtain ⟨w2, hw2⟩ := Int.eq_ofNat_of_zero_le mk.1
      rw [hw2]
      rw [show ((at_ : Int) + (w2 : Int)) = ((at_ + w2 : Nat) : Int) from by omega]
      have lcut2 := cut_len (a := stem) (x := at_) (y := at_ + w2) (by omega) (by omega)
      refine ⟨sz7, by rw [strLen_append, lc, lcut, lcut2]; omega, ?_⟩
      simp only [mAppend, ef]
      refine ⟨by rw [List.length_map]; exact small1000 (by omega), hR _ _ ⟨⟨_, _, rfl⟩, fun b' o eb => ?_, fs ++ [(cutS stem none (some (at_ : Int)) ++ ⟨#[c]⟩) ++ cutS stem (some (at_ : Int)) (some ((at_ + w2 : Nat) : Int))], by rw [List.length_append, hlj]; rfl, fun s hs => ?_, by rw [upd_same]; simp⟩⟩
      · rw [upd_ne (ne_of_none eb hf2)]; exact e3 b' o eb
      · rcases List.mem_append.mp hs with hs | hs
        · exact hfs s hs
        · rw [List.mem_singleton.mp hs]
          refine ⟨(lst.cut.app (LS.one hc)).app lst.cut, ?_, ?_⟩
          · rw [strLen_append, strLen_append, lc, lcut, lcut2]; omega
          · rw [strLen_append, strLen_append, lc, lcut, lcut2]; omega
  · rintro j H2 hj ⟨e2, cs, hcj, hcl, hD2⟩ R hR
    have ea2 := e2 a _ upd_same
    refine ⟨itl_go ea2 (by rw [List.length_map]; omega), ?_⟩
    intro x H3 hy
    obtain ⟨rfl, hx⟩ := itl_yld ea2 hy
    rw [List.getElem?_map] at hx
    cases ey : ps[j]? with
    | none => rw [ey] at hx; cases hx
    | some z =>
      rw [ey] at hx
      obtain rfl : V.int z = x := Option.some.inj hx
      refine ⟨rfl, ?_⟩
      simp only [tYes, wipe, if_true, tSeq, tIfS, tNext, tRet, tRetN, tDrop, tAsg, tC, cVar, tOp, tCB, tCons, tNil, tTup, tLst, tIf, tAnd, tOr, tNot, cTest, cTru, oTru, cAnd, cOr, cNot, cUn, cChain, gName, cTupG, gCons, gNil, gSub, oLt, oLe, oGt, oGe, oIs, oIsNot, oSub, oMul, oFdiv, oMod, oPow, cPar, cPar3, cAug, tDNewK, cCall, cAttr, frzE, List.mem_singleton, List.lookup_cons_self, List.getElem?_cons_zero, List.getElem?_cons_succ, List.set_cons_zero, List.set_cons_succ, Option.some.injEq, reduceCtorEq, if_true, if_false, Bool.true_eq_false, Bool.false_eq_true, decide_eq_true_eq, ite_true, ite_false, ↓reduceIte, List.length_cons, List.length_nil, true_and, and_true, exists_eq_left', exists_eq_left, List.cons.injEq]
      refine ⟨by decide, letter_at fun c hc => ?_⟩
      refine ⟨_, hD2, ?_, hR _ ⟨?_, cs ++ [c], by rw [List.length_append, hcj]; rfl, ?_, ?_⟩⟩
      · rw [List.length_map, List.length_map]
        exact small1000 (by omega)
      · intro b' o eb
        have hb : b' ≠ D := fun z => by rw [z, hD] at eb; cases eb
        rw [upd_ne hb]; exact e2 b' o eb
      · intro c' hc'
        rcases List.mem_append.mp hc' with h' | h'
        · exact hcl c' h'
        · rw [List.mem_singleton.mp h']; exact hc
      · rw [upd_same]; simp
end
end WR.L

set_option Elab.async false
set_option linter.all false
set_option maxRecDepth 100000
set_option maxHeartbeats 1000000
namespace WR.L
open PySem PySem.Spec PyProof.Rows L2
section
variable {K : PySem.W.Frag} {n : Nat} {H : Hp} {Q : VK} {E : XK}
theorem rget_in {rs : Rws} {s : Str} {p : Int × Int} (h : rget rs s = some p) : (s, p) ∈ rs := by
  unfold rget at h
  cases q : rs.find? fun r => decide (r.1 = s) with
  | none => rw [q] at h; cases h
  | some r =>
    rw [q] at h
    have h1 := List.find?_some q
    have h2 := List.mem_of_find?_eq_some q
    simp only [decide_eq_true_eq] at h1
    cases h
    rw [← h1]
    exact h2
theorem rget_no {rs : Rws} {s : Str} (h : rget rs s = none) : ∀ r ∈ rs, r.1 ≠ s := fun r hr e => by
  obtain ⟨p, hp⟩ := rget_mem (rs := rs) (s := s) (List.mem_map.mpr ⟨r, hr, e⟩)
  rw [h] at hp; cases hp
theorem rput_keys_in {rs : Rws} {s : Str} {p q : Int × Int} (h : rget rs s = some q) : (rput rs s p).map (·.1) = rs.map (·.1) ∧ (rput rs s p).length = rs.length := by
  unfold rput
  have h1 : (rs.any fun r => decide (r.1 = s)) = true := by
    rw [List.any_eq_true]
    exact ⟨(s, q), rget_in h, by simp⟩
  rw [if_pos h1]
  refine ⟨?_, by simp⟩
  rw [List.map_map]
  refine List.map_congr_left fun r hr => ?_
  simp only [Function.comp_def]
  split <;> rfl
theorem rput_mem {rs : Rws} {s : Str} {p : Int × Int} {r : Str × Int × Int} (h : r ∈ rput rs s p) : r ∈ rs ∨ r = (s, p) := by
  unfold rput at h
  split at h
  · obtain ⟨x, hx, rfl⟩ := List.mem_map.mp h
    by_cases e : x.1 = s
    · rw [if_pos e, ← e]; exact .inr rfl
    · rw [if_neg e]; exact .inl hx
  · rcases List.mem_append.mp h with h | h
    · exact .inl h
    · exact .inr (List.mem_singleton.mp h)
theorem rput_nd {rs : Rws} {s : Str} {p : Int × Int} (nd : (rs.map (·.1)).Nodup) : ((rput rs s p).map (·.1)).Nodup := by
  cases e : rget rs s with
  | some q => rw [(rput_keys_in e).1]; exact nd
  | none =>
    rw [rput_snoc (rget_no e), List.map_append]
    refine List.nodup_append.mpr ⟨nd, by simp, fun a ha b hb => ?_⟩
    simp only [List.map_cons, List.map_nil, List.mem_singleton] at hb
    obtain ⟨r, hr, rfl⟩ := List.mem_map.mp ha
    rw [hb]
    exact rget_no e r hr
theorem cnt_b {rs : Rws} {s : Str} {m : Nat} (g : Good m rs) : 0 ≤ cnt rs s ∧ cnt rs s ≤ m := by
  unfold cnt
  cases e : rget rs s with
  | none => simp
  | some p =>
    obtain ⟨_, h2, h3, _⟩ := g.2.2 _ (rget_in e)
    exact ⟨h2, h3⟩
theorem good_put {rs : Rws} {s : Str} {m : Nat} (g : Good m rs) (hs : isNm s = true) : Good (m + 1) (rput rs s (cnt rs s + 1, 5)) := by
  refine ⟨Nat.le_trans (rput_len _ _ _) (Nat.succ_le_succ g.1), rput_nd g.2.1, fun r hr => ?_⟩
  have cb := cnt_b (s := s) g
  rcases rput_mem hr with h | rfl
  · obtain ⟨h1, h2, h3, h4, h5⟩ := g.2.2 r h
    exact ⟨h1, h2, by omega, h4, h5⟩
  · exact ⟨hs, by show 0 ≤ cnt rs s + 1; omega, by show cnt rs s + 1 ≤ ((m + 1 : Nat) : Int); omega, by show (1 : Int) ≤ 5; decide, by show (5 : Int) ≤ 5; decide⟩
theorem turnR_keys (rs : Rws) : ((turnR rs).map (·.1)).Sublist (rs.map (·.1)) := by
  unfold turnR
  rw [List.map_map]
  exact (List.filter_sublist (l := rs) (p := fun r => decide (1 < r.2.2))).map _
theorem good_turn {rs : Rws} {m : Nat} (g : Good m rs) : Good m (turnR rs) := by
  refine ⟨Nat.le_trans (turnR_len _) g.1, g.2.1.sublist (turnR_keys rs), fun r hr => ?_⟩
  unfold turnR at hr
  obtain ⟨x, hx, rfl⟩ := List.mem_map.mp hr
  obtain ⟨hx1, hx2⟩ := List.mem_filter.mp hx
  simp only [decide_eq_true_eq] at hx2
  obtain ⟨h1, h2, h3, h4, h5⟩ := g.2.2 x hx1
  exact ⟨h1, h2, h3, by show 1 ≤ x.2.2 - 1; omega, by show x.2.2 - 1 ≤ 5; omega⟩
theorem Good.mono {rs : Rws} {m k : Nat} (g : Good m rs) (h : m ≤ k) : Good k rs :=
  ⟨Nat.le_trans g.1 h, g.2.1, fun r hr => by obtain ⟨h1, h2, h3, h4, h5⟩ := g.2.2 r hr; exact ⟨h1, h2, by omega, h4, h5⟩⟩
theorem good_nil : Good 0 [] := ⟨Nat.le_refl _, List.nodup_nil, fun r hr => nomatch hr⟩
/-- five turns behind nothing is left -/
theorem turns_nil {rs : Rws} (h : ∀ r ∈ rs, r.2.2 ≤ 5) : turnR (turnR (turnR (turnR (turnR rs)))) = [] := by
  have st : ∀ (k : Int) (rs : Rws), (∀ r ∈ rs, r.2.2 ≤ k + 1) → ∀ r ∈ turnR rs, r.2.2 ≤ k := fun k rs h r hr => by
    unfold turnR at hr
    obtain ⟨x, hx, rfl⟩ := List.mem_map.mp hr
    have := h x (List.mem_filter.mp hx).1
    show x.2.2 - 1 ≤ k
    omega
  have h1 := st 4 _ h
  have h2 := st 3 _ h1
  have h3 := st 2 _ h2
  have h4 := st 1 _ h3
  refine List.eq_nil_iff_forall_not_mem.mpr fun r hr => ?_
  unfold turnR at hr
  obtain ⟨x, hx, rfl⟩ := List.mem_map.mp hr
  obtain ⟨hx1, hx2⟩ := List.mem_filter.mp hx
  simp only [decide_eq_true_eq] at hx2
  have := h4 x hx1
  omega
theorem told_mem' {rs ts : Rws} (nd : (rs.map (·.1)).Nodup) (ht : Told rs ts) {r : Str × Int × Int} (h : r ∈ rs) : r ∈ ts := by
  obtain ⟨ys, p1, s1, rfl⟩ := ht
  unfold ordr
  refine List.mem_map.mpr ⟨r.1, p1.mem_iff.mpr (List.mem_map_of_mem h), ?_⟩
  rw [rget_of nd h]
  rfl
theorem told_nd {rs ts : Rws} (nd : (rs.map (·.1)).Nodup) (ht : Told rs ts) : (ts.map (·.1)).Nodup := by
  obtain ⟨ys, p1, s1, rfl⟩ := ht
  rw [ordr_keys]; exact p1.nodup_iff.mpr nd
theorem dat_dt {us : Rws} {s : Str} {p : Int × Int} (nd : (us.map (·.1)).Nodup) (h : (s, p) ∈ us) : dat (dt us) (.inr s) = some (.tuple [.int p.1, .int p.2]) := by
  induction us with
  | nil => cases h
  | cons q us ih =>
    rw [List.map_cons, List.nodup_cons] at nd
    rcases List.mem_cons.mp h with rfl | h
    · simp [dat, dt]
    · have hne : q.1 ≠ s := fun z => nd.1 (by rw [z]; exact List.mem_map.mpr ⟨(s, p), h, rfl⟩)
      have hne' : ¬ ((Sum.inr q.1 : Key) = Sum.inr s) := fun z => hne (Sum.inr.inj z)
      have := ih nd.2 h
      simp only [dat, dt, List.map_cons, List.find?_cons, hne', decide_false] at this ⊢
      exact this
/-- one more seen: no longer equal -/
theorem eqT_seen {rs ts us : Rws} {s : Str} (nd : (rs.map (·.1)).Nodup) (ht : Told rs ts) (hu : Told (rput rs s (cnt rs s + 1, 5)) us) : eqT ts us = false := by
  have nd2 := rput_nd (s := s) (p := (cnt rs s + 1, 5)) nd
  unfold eqT
  cases e : rget rs s with
  | none =>
    have h1 : (ts.length == us.length) = false := by
      rw [told_len ht, told_len hu, rput_snoc (rget_no e), List.length_append]
      simp
    rw [h1]; rfl
  | some q =>
    have h1 : (s, q) ∈ ts := told_mem' nd ht (rget_in e)
    have h2 : (s, (cnt rs s + 1, (5 : Int))) ∈ rput rs s (cnt rs s + 1, 5) := by
      unfold rput
      rw [if_pos (by rw [List.any_eq_true]; exact ⟨(s, q), rget_in e, by simp⟩)]
      exact List.mem_map.mpr ⟨(s, q), rget_in e, by simp⟩
    have h3 := told_mem' nd2 hu h2
    have h4 := dat_dt (told_nd nd2 hu) h3
    have h5 : eqKv (dt ts) (dt us) = false := by
      unfold eqKv
      rw [List.all_eq_false]
      refine ⟨(.inr s, .tuple [.int q.1, .int q.2]), List.mem_map.mpr ⟨(s, q), h1, rfl⟩, ?_⟩
      rw [h4]
      have hc : cnt rs s = q.1 := by unfold cnt; rw [e]; rfl
      have : q.1 ≠ q.1 + 1 := by omega
      simp [PyData.eqv, PyData.eqvAll, hc]
      try omega
    rw [h5, Bool.and_false]
end
end WR.L

set_option Elab.async false
set_option linter.all false
set_option maxRecDepth 100000
set_option maxHeartbeats 1000000
namespace WR.L
open PySem PySem.Spec PyProof.Rows L2
section
variable {K : PySem.W.Frag} {n : Nat} {H H' : Hp} {Q : VK} {E : XK}
theorem exd_tp {x : Addr} {kvs : List (Key × V)} (e : Exd x H H') (hx : H x = some (.dK kvs)) : Tp H H' := fun t xs ht => e t _ (fun z => by rw [z, hx] at ht; cases ht) ht
theorem rat_fr {x a : Addr} {kvs : List (Key × V)} {rs : Rws} (R : RAt H a rs) (e : Exd x H H') (hx : H x = some (.dK kvs)) (ne : a ≠ x) : RAt H' a rs := by
  obtain ⟨kv, ea, r⟩ := R
  exact ⟨kv, e a _ ne ea, r.tp (exd_tp e hx)⟩
theorem wat_fr {x p d : Addr} {kvs : List (Key × V)} {rs : Rws} (W : WAt K H p d rs) (e : Exd x H H') (hx : H x = some (.dK kvs)) (ne : d ≠ x) : WAt K H' p d rs := by
  obtain ⟨⟨dx, hp⟩, R⟩ := W
  exact ⟨⟨dx, e p _ (fun z => by rw [z, hx] at hp; cases hp) hp⟩, rat_fr R e hx ne⟩
/-- p and its dict stand, whatever becomes of another Wrongs at q and its dict at x -/
abbrev Exq (q x : Addr) (H H' : Hp) : Prop := ∀ b o, b ≠ q → b ≠ x → H b = some o → H' b = some o
theorem rat_frq {q x a C dx : Addr} {fs : List (Str × V)} {kvs : List (Key × V)} {rs : Rws} (R : RAt H a rs) (e : Exq q x H H') (hq : H q = some (.ins C dx fs)) (hx : H x = some (.dK kvs)) (ne : a ≠ x) : RAt H' a rs := by
  obtain ⟨kv, ea, r⟩ := R
  refine ⟨kv, e a _ (fun z => by rw [z, hq] at ea; cases ea) ne ea, r.tp fun t xs ht => ?_⟩
  exact e t _ (fun z => by rw [z, hq] at ht; cases ht) (fun z => by rw [z, hx] at ht; cases ht) ht
theorem wat_frq {q x p d C dx : Addr} {fs : List (Str × V)} {kvs : List (Key × V)} {rs : Rws} (W : WAt K H p d rs) (e : Exq q x H H') (hq : H q = some (.ins C dx fs)) (hx : H x = some (.dK kvs)) (ne : d ≠ x) (npq : p ≠ q) : WAt K H' p d rs := by
  obtain ⟨⟨dx', hp⟩, R⟩ := W
  exact ⟨⟨dx', e p _ npq (fun z => by rw [z, hx] at hp; cases hp) hp⟩, rat_frq R e hq hx ne⟩
/-- the two sides: what stands between two cells -/
structure Two (K : PySem.W.Frag) (H : Hp) (bl tl nl sl : Addr) (nms : List Str) (cs : List V) (p d t : Bool → Addr) (rs : Bool → Rws) (m : Nat) : Prop where
  both : H bl = some (.lst [.ref (p false), .ref (p true)])
  tabs : H tl = some (.lst [.ref (t false), .ref (t true)])
  nam : H nl = some (.lst (nms.map V.str))
  cel : H sl = some (.lst cs)
  W : ∀ w, WAt K H (p w) (d w) (rs w)
  R : ∀ w, RAt H (t w) (rs w)
  g : ∀ w, Good m (rs w)
  pp : p false ≠ p true
  dd : d false ≠ d true
  tt : t false ≠ t true
  dt : ∀ v w, d v ≠ t w
def up (f : Bool → Rws) (w : Bool) (x : Rws) : Bool → Rws := fun v => if v = w then x else f v
section
variable {bl tl nl sl : Addr} {nms : List Str} {cs : List V} {p d t : Bool → Addr} {rs : Bool → Rws} {m : Nat}
theorem Two.ex (T : Two K H bl tl nl sl nms cs p d t rs m) (e : Ex H H') : Two K H' bl tl nl sl nms cs p d t rs m :=
  ⟨e _ _ T.both, e _ _ T.tabs, e _ _ T.nam, e _ _ T.cel, fun w => (T.W w).ex e, fun w => (T.R w).ex e, T.g, T.pp, T.dd, T.tt, T.dt⟩
theorem Two.d_ne (T : Two K H bl tl nl sl nms cs p d t rs m) {v w : Bool} (h : v ≠ w) : d v ≠ d w := by
  cases v <;> cases w <;> first | exact absurd rfl h | exact T.dd | exact T.dd.symm
theorem Two.t_ne (T : Two K H bl tl nl sl nms cs p d t rs m) {v w : Bool} (h : v ≠ w) : t v ≠ t w := by
  cases v <;> cases w <;> first | exact absurd rfl h | exact T.tt | exact T.tt.symm
theorem Two.p_ne (T : Two K H bl tl nl sl nms cs p d t rs m) {v w : Bool} (h : v ≠ w) : p v ≠ p w := by
  cases v <;> cases w <;> first | exact absurd rfl h | exact T.pp | exact T.pp.symm
/-- a wrong seen by both of a side -/
theorem Two.seen (T : Two K H bl tl nl sl nms cs p d t rs m) {w : Bool} {s : Str} {H1 H2 : Hp} {rs' : Rws} (hg : Good (m + 1) rs') (W1 : WAt K H1 (p w) (d w) rs') (e1 : Exd (d w) H H1) (R2 : RAt H2 (t w) rs') (e2 : Exd (t w) H1 H2) :
    Two K H2 bl tl nl sl nms cs p d t (up rs w rs') (m + 1) := by
  obtain ⟨_, kd, ed, _⟩ := T.W w
  obtain ⟨kt, et, _⟩ := T.R w
  have et1 := e1 _ _ (T.dt w w).symm et
  have lst : ∀ a xs, H a = some (.lst xs) → H2 a = some (.lst xs) := fun a xs ea =>
    e2 a _ (fun z => by rw [z, et] at ea; cases ea) (e1 a _ (fun z => by rw [z, ed] at ea; cases ea) ea)
  refine ⟨lst _ _ T.both, lst _ _ T.tabs, lst _ _ T.nam, lst _ _ T.cel, fun v => ?_, fun v => ?_, fun v => ?_, T.pp, T.dd, T.tt, T.dt⟩
  · unfold up
    by_cases h : v = w
    · subst h
      rw [if_pos rfl]
      exact wat_fr W1 e2 et1 (T.dt v v)
    · rw [if_neg h]
      exact wat_fr (wat_fr (T.W v) e1 ed (T.d_ne h)) e2 et1 (T.dt v w)
  · unfold up
    by_cases h : v = w
    · subst h
      rw [if_pos rfl]; exact R2
    · rw [if_neg h]
      exact rat_fr (rat_fr (T.R v) e1 ed (T.dt w v).symm) e2 et1 (T.t_ne h)
  · unfold up
    by_cases h : v = w
    · rw [if_pos h]; exact hg
    · rw [if_neg h]; exact (T.g v).mono (Nat.le_succ _)
def upA (f : Bool → Addr) (w : Bool) (x : Addr) : Bool → Addr := fun v => if v = w then x else f v
/-- a turn of both of a side -/
theorem Two.turned (T : Two K H bl tl nl sl nms cs p d t rs m) {w : Bool} {d' : Addr} {H1 H2 : Hp} {rs' : Rws} (hg : Good m rs') (W1 : WAt K H1 (p w) d' rs') (e1 : Exq (p w) (d w) H H1) (hd' : H d' = none) (R2 : RAt H2 (t w) rs') (e2 : Exd (t w) H1 H2) :
    Two K H2 bl tl nl sl nms cs p (upA d w d') t (up rs w rs') m := by
  obtain ⟨⟨dx, ep⟩, kd, ed, _⟩ := T.W w
  obtain ⟨kt, et, _⟩ := T.R w
  have et1 := e1 _ _ (fun z => by rw [z, ep] at et; cases et) (T.dt w w).symm et
  have lst : ∀ a xs, H a = some (.lst xs) → H2 a = some (.lst xs) := fun a xs ea =>
    e2 a _ (fun z => by rw [z, et] at ea; cases ea) (e1 a _ (fun z => by rw [z, ep] at ea; cases ea) (fun z => by rw [z, ed] at ea; cases ea) ea)
  have fr : ∀ {a o}, H a = some o → a ≠ d' := fun h z => by rw [z, hd'] at h; cases h
  have ft : ∀ v, t v ≠ d' := fun v => by obtain ⟨_, e, _⟩ := T.R v; exact fr e
  have fd : ∀ v, d v ≠ d' := fun v => by obtain ⟨_, _, e, _⟩ := T.W v; exact fr e
  refine ⟨lst _ _ T.both, lst _ _ T.tabs, lst _ _ T.nam, lst _ _ T.cel, fun v => ?_, fun v => ?_, fun v => ?_, T.pp, ?_, T.tt, fun v w' => ?_⟩
  · unfold up upA
    by_cases h : v = w
    · subst h
      rw [if_pos rfl, if_pos rfl]
      exact wat_fr W1 e2 et1 (ft v).symm
    · rw [if_neg h, if_neg h]
      exact wat_fr (wat_frq (T.W v) e1 ep ed (T.d_ne h) (T.p_ne h)) e2 et1 (T.dt v w)
  · unfold up
    by_cases h : v = w
    · subst h
      rw [if_pos rfl]; exact R2
    · rw [if_neg h]
      exact rat_fr (rat_frq (T.R v) e1 ep ed (T.dt w v).symm) e2 et1 (T.t_ne h)
  · unfold up
    by_cases h : v = w
    · rw [if_pos h]; exact hg
    · rw [if_neg h]; exact T.g v
  · unfold upA
    cases w
    · simpa using (fd true).symm
    · simpa using fd false
  · unfold upA
    by_cases h : v = w
    · rw [if_pos h]; exact (ft w').symm
    · rw [if_neg h]; exact T.dt v w'
/-- another Wrongs takes a side's place -/
theorem Two.put (T : Two K H bl tl nl sl nms cs p d t rs m) {w : Bool} {p' d' : Addr} (hp' : ∀ v, p v ≠ p') (hd' : ∀ v, d v ≠ d') (ht' : ∀ v, t v ≠ d') (W1 : WAt K H p' d' (rs w)) (hb : bl ≠ p' ∧ bl ≠ d') :
    Two K (upd H bl (.lst [.ref (upA p w p' false), .ref (upA p w p' true)])) bl tl nl sl nms cs (upA p w p') (upA d w d') t rs m ∨ tl = bl ∨ nl = bl ∨ sl = bl := by
  by_cases h1 : tl = bl
  · exact .inr (.inl h1)
  by_cases h2 : nl = bl
  · exact .inr (.inr (.inl h2))
  by_cases h3 : sl = bl
  · exact .inr (.inr (.inr h3))
  refine .inl ?_
  have tp : Tp H (upd H bl (.lst [.ref (upA p w p' false), .ref (upA p w p' true)])) := fun x xs e => by
    rw [upd_ne (fun z => by rw [z, T.both] at e; cases e)]; exact e
  have rat : ∀ {a us}, RAt H a us → RAt (upd H bl (.lst [.ref (upA p w p' false), .ref (upA p w p' true)])) a us := fun ⟨kv, e, r⟩ =>
    ⟨kv, by rw [upd_ne (fun z => by rw [z, T.both] at e; cases e)]; exact e, r.tp tp⟩
  have wat : ∀ {a b us}, WAt K H a b us → WAt K (upd H bl (.lst [.ref (upA p w p' false), .ref (upA p w p' true)])) a b us := fun ⟨⟨dx, e⟩, r⟩ =>
    ⟨⟨dx, by rw [upd_ne (fun z => by rw [z, T.both] at e; cases e)]; exact e⟩, rat r⟩
  refine ⟨upd_same, by rw [upd_ne h1]; exact T.tabs, by rw [upd_ne h2]; exact T.nam, by rw [upd_ne h3]; exact T.cel, fun v => ?_, fun v => rat (T.R v), T.g, ?_, ?_, T.tt, fun v w' => ?_⟩
  · unfold upA
    by_cases h : v = w
    · subst h; rw [if_pos rfl, if_pos rfl]; exact wat W1
    · rw [if_neg h, if_neg h]; exact wat (T.W v)
  · unfold upA
    cases w
    · simpa using (hp' true).symm
    · simpa using hp' false
  · unfold upA
    cases w
    · simpa using (hd' true).symm
    · simpa using hd' false
  · unfold upA
    by_cases h : v = w
    · rw [if_pos h]; exact (ht' w').symm
    · rw [if_neg h]; exact T.dt v w'
theorem two_ix {x y : V} {c : Int} (h : H bl = some (.lst [x, y])) (q : Q (if c % 2 = 1 then y else x) H) : oIx K (.ref bl) (.int (c % 2)) H Q := by
  have m2 := mod_b (a := c) (m := 2) (by decide)
  rcases (by omega : c % 2 = 0 ∨ c % 2 = 1) with e | e
  · rw [e] at q ⊢
    rw [ix_lst (look_of_lst h) (v := x) rfl]
    simpa using q
  · rw [e] at q ⊢
    rw [ix_lst (look_of_lst h) (v := y) rfl]
    simpa using q
end
end
end WR.L

set_option Elab.async false
set_option linter.all false
set_option maxRecDepth 100000
set_option maxHeartbeats 1000000
namespace WR.L
open PySem PySem.Spec PyProof.Rows L2
section
variable {K : PySem.W.Frag} {n : Nat} {H H' : Hp} {Q : VK} {E : XK}
theorem oGet_mono {p : Addr} {y : V} {R R' : Option V → Prop} (h : ∀ o, R o → R' o) (q : oGet H p y R) : oGet H p y R' := by
  unfold oGet at q ⊢
  split at q
  · split at q
    · rename_i e; exact h _ q
    · exact q.elim
  · split at q
    · rename_i e; exact h _ q
    · exact q.elim
  · obtain ⟨k, b, e1, e2, q⟩ := q; exact ⟨k, b, e1, e2, h _ q⟩
  · obtain ⟨k, b, e1, e2, q⟩ := q; exact ⟨k, b, e1, e2, h _ q⟩
  · exact q.elim
theorem oIx_mono {x y : V} {P P' : V → Hp → Prop} (h : ∀ x H, P x H → P' x H) (q : oIx K x y H P) : oIx K x y H P' := by
  unfold oIx at q ⊢
  split at q
  · split at q
    · split at q
      · split at q
        · exact h _ _ q
        · exact q.elim
      · exact q.elim
    · split at q
      · split at q
        · exact h _ _ q
        · exact q.elim
      · exact q.elim
    · exact oGet_mono (fun o z => by
        cases o with
        | none => exact z
        | some v => exact h _ _ z) q
  · split at q
    · refine ⟨q.1, ?_⟩
      have q2 := q.2
      split at q2
      · exact h _ _ q2
      · exact q2.elim
    · exact q.elim
  · exact q.elim
theorem mono_ix {i j : Nat} {σ : L2.St} {P P' : V → Hp → Prop} (h : ∀ x H, P x H → P' x H) (q : tOp (oIx K) (cVar i) (cVar j) σ H P) : tOp (oIx K) (cVar i) (cVar j) σ H P' := by
  simp only [tOp] at q ⊢
  exact mono_var (fun x H1 q1 => mono_var (fun y H2 q2 => oIx_mono h q2) q1) q
theorem mono_ixC {i : Nat} {v : V} {σ : L2.St} {P P' : V → Hp → Prop} (h : ∀ x H, P x H → P' x H) (q : tOp (oIx K) (cVar i) (tC v) σ H P) : tOp (oIx K) (cVar i) (tC v) σ H P' := by
  simp only [tOp, tC] at q ⊢
  exact mono_var (fun x H1 q1 => oIx_mono h q1) q
end
end WR.L

set_option Elab.async false
set_option linter.all false
set_option maxRecDepth 100000
set_option maxHeartbeats 1000000
namespace WR.L
open PySem PySem.Spec PyProof.Rows L2
section
variable {K : PySem.W.Frag} {n : Nat} {H H' : Hp} {Q : VK} {E : XK}
/-- making a Wrongs -/
theorem mk_wrongs {σ : L2.St} {W : WX} (h : ∀ p d H', Ex H H' → H p = none → H d = none → p ≠ d → WAt K H' p d [] → Q (.ref p) H') : cMk (He.ga K "Wrongs") 0 0 (fun vs _ => vs) (SP K (n+1) "Wrongs.__init__") tNil tNil W σ H Q := by
  simp only [cMk, tNil]
  refine ⟨rfl, rfl, fun x dx hx hdx ne => ?_⟩
  refine s_init (dx := dx) upd_same fun d0 H1 W1 hd0 k1 => ⟨rfl, ?_⟩
  have ex1 : Ex H H1 := fun b o e => k1 b o (ne_of_none e hx) (by rw [upd_ne (ne_of_none e hx), upd_ne (ne_of_none e hdx)]; exact e)
  have nxd : x ≠ d0 := fun z => by rw [← z, upd_same] at hd0; cases hd0
  have hd : H d0 = none := by
    cases e : H d0 with
    | none => rfl
    | some o =>
      rw [upd_ne nxd.symm] at hd0
      by_cases h2 : d0 = dx
      · rw [h2, upd_same] at hd0; cases hd0
      · rw [upd_ne h2, e] at hd0; cases hd0
  exact h x d0 H1 ex1 hx hd nxd W1
end
end WR.L

set_option Elab.async false
set_option linter.all false
set_option maxRecDepth 100000
set_option maxHeartbeats 1000000
namespace WR.L
open PySem PySem.Spec PyProof.Rows L2
section
variable {K : PySem.W.Frag} {n : Nat} {H H' : Hp} {Q : VK} {E : XK}
/-- which side a cell names -/
def sd (c : Int) : Bool := decide (c % 2 = 1)
theorem two_sd {bl : Addr} {f : Bool → Addr} {c : Int} (h : H bl = some (.lst [.ref (f false), .ref (f true)])) (q : Q (.ref (f (sd c))) H) : oIx K (.ref bl) (.int (c % 2)) H Q := by
  refine two_ix h ?_
  unfold sd at q
  by_cases e : c % 2 = 1
  · rw [if_pos e]; simpa [e] using q
  · rw [if_neg e]; simpa [e] using q
section
variable {bl tl nl sl : Addr} {nms : List Str} {cs : List V} {p d t : Bool → Addr} {rs : Bool → Rws} {m : Nat}
theorem rat_lst {a l : Addr} {us : Rws} {xs : List V} {o : HO} (R : RAt H a us) (hl : H l = some (.lst xs)) : RAt (upd H l o) a us := by
  obtain ⟨kv, e, r⟩ := R
  refine ⟨kv, by rw [upd_ne (fun z => by rw [z, hl] at e; cases e)]; exact e, r.tp fun x ys ex => ?_⟩
  rw [upd_ne (fun z => by rw [z, hl] at ex; cases ex)]; exact ex
theorem wat_lst {a b l : Addr} {us : Rws} {xs : List V} {o : HO} (W : WAt K H a b us) (hl : H l = some (.lst xs)) : WAt K (upd H l o) a b us := by
  obtain ⟨⟨dx, e⟩, R⟩ := W
  exact ⟨⟨dx, by rw [upd_ne (fun z => by rw [z, hl] at e; cases e)]; exact e⟩, rat_lst R hl⟩
/-- another list is written -/
theorem Two.app (T : Two K H bl tl nl sl nms cs p d t rs m) {l : Addr} {xs : List V} {o : HO} (hl : H l = some (.lst xs)) (n1 : bl ≠ l) (n2 : tl ≠ l) (n3 : nl ≠ l) (n4 : sl ≠ l) : Two K (upd H l o) bl tl nl sl nms cs p d t rs m :=
  ⟨by rw [upd_ne n1]; exact T.both, by rw [upd_ne n2]; exact T.tabs, by rw [upd_ne n3]; exact T.nam, by rw [upd_ne n4]; exact T.cel, fun w => wat_lst (T.W w) hl, fun w => rat_lst (T.R w) hl, T.g, T.pp, T.dd, T.tt, T.dt⟩
/-- another Wrongs takes a turn -/
theorem Two.other (T : Two K H bl tl nl sl nms cs p d t rs m) {q x C dx : Addr} {fs : List (Str × V)} {kvs : List (Key × V)} (e : Exq q x H H') (hq : H q = some (.ins C dx fs)) (hx : H x = some (.dK kvs)) (h1 : ∀ v, d v ≠ x) (h2 : ∀ v, t v ≠ x) (h3 : ∀ v, p v ≠ q) : Two K H' bl tl nl sl nms cs p d t rs m := by
  have lst : ∀ a xs, H a = some (.lst xs) → H' a = some (.lst xs) := fun a xs ea => e a _ (fun z => by rw [z, hq] at ea; cases ea) (fun z => by rw [z, hx] at ea; cases ea) ea
  exact ⟨lst _ _ T.both, lst _ _ T.tabs, lst _ _ T.nam, lst _ _ T.cel, fun w => wat_frq (T.W w) e hq hx (h1 w) (h3 w), fun w => rat_frq (T.R w) e hq hx (h2 w), T.g, T.pp, T.dd, T.tt, T.dt⟩
theorem Two.up_g (T : Two K H bl tl nl sl nms cs p d t rs m) (w : Bool) : (rs w).length ≤ m ∧ ((rs w).map (·.1)).Nodup ∧ ∀ r ∈ rs w, 1 ≤ r.2.2 := ⟨(T.g w).1, (T.g w).2.1, fun r hr => ((T.g w).2.2 r hr).2.2.2.1⟩
/-- what is told of a side's table at another place -/
theorem Two.tab1 (T : Two K H bl tl nl sl nms cs p d t rs m) {w : Bool} {H1 : Hp} (e1 : Exd (d w) H H1) : H1 tl = some (.lst [.ref (t false), .ref (t true)]) ∧ RAt H1 (t w) (rs w) := by
  obtain ⟨_, kd, ed, _⟩ := T.W w
  exact ⟨e1 _ _ (fun z => by have := T.tabs; rw [z, ed] at this; cases this) T.tabs, rat_fr (T.R w) e1 ed (T.dt w w).symm⟩
end
/-- a wrong that is seen -/
theorem br_seen {a bl tl nl sl : Addr} {nms : List Str} {cs : List V} {p d t : Bool → Addr} {rs : Bool → Rws} {m : Nat} {c way : Int} {s : Str} {D : Ends} {W : WX} {v5 v6 v10 v11 v12 : Option V} (T : Two K H bl tl nl sl nms cs p d t rs m) (hm : m ≤ 62) (hs : isNm s = true)
    (h : ∀ v10 rs' H', Two K H' bl tl nl sl nms cs p d t rs' (m + 1) → D.nx [some (.ref a), some (.ref nl), some (.ref bl), some (.ref tl), some (.int c), v5, v6, some (.int (c % 2)), some (.int way), some (.str s), v10, v11, v12] H') :
    tSeq (tAsg (mC (gg K (SP K (n+6))) "seen" 1 0 [] (tOp (oIx K) (cVar 2) (cVar 7)) (tCons (cVar 9) tNil) tNil W) (gName 10))
      (tIfS (tNot (cTru K (cCall ((SP K (n+6)) "_law_alike") 2 0 (fun vs _ => vs) (tCons (cVar 10) (tCons (cCall ((SP K (n+6)) "_law_seen") 2 0 (fun vs _ => vs) (tCons (tOp (oIx K) (cVar 3) (cVar 7)) (tCons (cVar 9) tNil)) tNil W) tNil)) tNil W)))
      (tRet (tC (.bl false)))
      tNext) D [some (.ref a), some (.ref nl), some (.ref bl), some (.ref tl), some (.int c), v5, v6, some (.int (c % 2)), some (.int way), some (.str s), v10, v11, v12] H := by
  refine seq_ fun N1 h1 => ?_
  simp only [tAsg]
  refine mC_own (c_seen_1 K _) ?_ fun P P' hh q => mono_ix hh q
  try simp only [tSeq, tIfS, tNext, tRet, tRetN, tDrop, tAsg, tC, cVar, tOp, tCB, tCons, tNil, tTup, tLst, tIf, tAnd, tOr, tNot, cTest, cTru, oTru, cAnd, cOr, cNot, cUn, cChain, gName, cTupG, gCons, gNil, gSub, oLt, oLe, oGt, oGe, oIs, oIsNot, oSub, oMul, oFdiv, oMod, oPow, cPar, cPar3, cAug, tDNewK, cCall, cAttr, frzE, List.mem_singleton, List.lookup_cons_self, List.getElem?_cons_zero, List.getElem?_cons_succ, List.set_cons_zero, List.set_cons_succ, Option.some.injEq, reduceCtorEq, if_true, if_false, Bool.true_eq_false, Bool.false_eq_true, decide_eq_true_eq, ite_true, ite_false, ↓reduceIte, List.length_cons, List.length_nil, true_and, and_true, exists_eq_left', exists_eq_left, List.cons.injEq]
  refine two_sd T.both ?_
  have Ww := T.W (sd c)
  obtain ⟨⟨dx, hp⟩, kd, ed, _⟩ := id Ww
  obtain ⟨l1, nd, _⟩ := T.up_g (sd c)
  have hs2 : s.length ≤ 1000 := Nat.le_trans (nm_len hs) (by decide)
  refine ⟨_, dx, _, rfl, hp, lk1 (by decide +kernel), ?_⟩
  try simp only [tSeq, tIfS, tNext, tRet, tRetN, tDrop, tAsg, tC, cVar, tOp, tCB, tCons, tNil, tTup, tLst, tIf, tAnd, tOr, tNot, cTest, cTru, oTru, cAnd, cOr, cNot, cUn, cChain, gName, cTupG, gCons, gNil, gSub, oLt, oLe, oGt, oGe, oIs, oIsNot, oSub, oMul, oFdiv, oMod, oPow, cPar, cPar3, cAug, tDNewK, cCall, cAttr, frzE, List.mem_singleton, List.lookup_cons_self, List.getElem?_cons_zero, List.getElem?_cons_succ, List.set_cons_zero, List.set_cons_succ, Option.some.injEq, reduceCtorEq, if_true, if_false, Bool.true_eq_false, Bool.false_eq_true, decide_eq_true_eq, ite_true, ite_false, ↓reduceIte, List.length_cons, List.length_nil, true_and, and_true, exists_eq_left', exists_eq_left, List.cons.injEq]
  refine s_seen Ww (by omega) hs2 hs fun H1 W1 e1 => h1 _ _ (ifS_ fun A B hA hB => ?_)
  obtain ⟨t1, R1⟩ := T.tab1 e1
  simp only [tNot, cTru, cCall, tSeq, tIfS, tNext, tRet, tRetN, tDrop, tAsg, tC, cVar, tOp, tCB, tCons, tNil, tTup, tLst, tIf, tAnd, tOr, tNot, cTest, cTru, oTru, cAnd, cOr, cNot, cUn, cChain, gName, cTupG, gCons, gNil, gSub, oLt, oLe, oGt, oGe, oIs, oIsNot, oSub, oMul, oFdiv, oMod, oPow, cPar, cPar3, cAug, tDNewK, cCall, cAttr, frzE, List.mem_singleton, List.lookup_cons_self, List.getElem?_cons_zero, List.getElem?_cons_succ, List.set_cons_zero, List.set_cons_succ, Option.some.injEq, reduceCtorEq, if_true, if_false, Bool.true_eq_false, Bool.false_eq_true, decide_eq_true_eq, ite_true, ite_false, ↓reduceIte, List.length_cons, List.length_nil, true_and, and_true, exists_eq_left', exists_eq_left, List.cons.injEq]
  refine two_sd t1 ?_
  refine s_law_seen R1 (by omega) fun H2 R2 e2 => ?_
  refine s_alike_int ?_
  simp only [Bool.not_true, tSeq, tIfS, tNext, tRet, tRetN, tDrop, tAsg, tC, cVar, tOp, tCB, tCons, tNil, tTup, tLst, tIf, tAnd, tOr, tNot, cTest, cTru, oTru, cAnd, cOr, cNot, cUn, cChain, gName, cTupG, gCons, gNil, gSub, oLt, oLe, oGt, oGe, oIs, oIsNot, oSub, oMul, oFdiv, oMod, oPow, cPar, cPar3, cAug, tDNewK, cCall, cAttr, frzE, List.mem_singleton, List.lookup_cons_self, List.getElem?_cons_zero, List.getElem?_cons_succ, List.set_cons_zero, List.set_cons_succ, Option.some.injEq, reduceCtorEq, if_true, if_false, Bool.true_eq_false, Bool.false_eq_true, decide_eq_true_eq, ite_true, ite_false, ↓reduceIte, List.length_cons, List.length_nil, true_and, and_true, exists_eq_left', exists_eq_left, List.cons.injEq]
  exact hB _ (h _ _ _ (T.seen (s := s) (good_put (T.g (sd c)) hs) W1 e1 R2 e2))
/-- a turn -/
theorem br_turn {a bl tl nl sl : Addr} {nms : List Str} {cs : List V} {p d t : Bool → Addr} {rs : Bool → Rws} {m : Nat} {c way : Int} {s : Str} {D : Ends} {W : WX} {v5 v6 v10 v11 v12 : Option V} (T : Two K H bl tl nl sl nms cs p d t rs m) (hm : m ≤ 62) 
    (h : ∀ v10 d' rs' H', Two K H' bl tl nl sl nms cs p d' t rs' m → D.nx [some (.ref a), some (.ref nl), some (.ref bl), some (.ref tl), some (.int c), v5, v6, some (.int (c % 2)), some (.int way), some (.str s), v10, v11, v12] H') :
    tSeq (tAsg (mC (gg K (SP K (n+6))) "turn" 0 0 [] (tOp (oIx K) (cVar 2) (cVar 7)) tNil tNil W) (gName 10))
      (tSeq (tIfS (tNot (cTru K (cCall ((SP K (n+6)) "_law_alike") 2 0 (fun vs _ => vs) (tCons (cVar 10) (tCons (cCall ((SP K (n+6)) "_law_turned") 1 0 (fun vs _ => vs) (tCons (tOp (oIx K) (cVar 3) (cVar 7)) tNil) tNil W) tNil)) tNil W)))
      (tRet (tC (.bl false)))
      tNext)
      (tDrop (mC (gg K (SP K (n+6))) "append" 1 0 [] (cVar 10) (tCons (cVar 9) tNil) tNil W))) D [some (.ref a), some (.ref nl), some (.ref bl), some (.ref tl), some (.int c), v5, v6, some (.int (c % 2)), some (.int way), some (.str s), v10, v11, v12] H := by
  refine seq_ fun N1 h1 => ?_
  simp only [tAsg]
  refine mC_own (c_turn_0 K _) ?_ fun P P' hh q => mono_ix hh q
  try simp only [tSeq, tIfS, tNext, tRet, tRetN, tDrop, tAsg, tC, cVar, tOp, tCB, tCons, tNil, tTup, tLst, tIf, tAnd, tOr, tNot, cTest, cTru, oTru, cAnd, cOr, cNot, cUn, cChain, gName, cTupG, gCons, gNil, gSub, oLt, oLe, oGt, oGe, oIs, oIsNot, oSub, oMul, oFdiv, oMod, oPow, cPar, cPar3, cAug, tDNewK, cCall, cAttr, frzE, List.mem_singleton, List.lookup_cons_self, List.getElem?_cons_zero, List.getElem?_cons_succ, List.set_cons_zero, List.set_cons_succ, Option.some.injEq, reduceCtorEq, if_true, if_false, Bool.true_eq_false, Bool.false_eq_true, decide_eq_true_eq, ite_true, ite_false, ↓reduceIte, List.length_cons, List.length_nil, true_and, and_true, exists_eq_left', exists_eq_left, List.cons.injEq]
  refine two_sd T.both ?_
  have Ww := T.W (sd c)
  obtain ⟨⟨dx, hp⟩, kd, ed, _⟩ := id Ww
  obtain ⟨l1, nd, ps⟩ := T.up_g (sd c)
  refine ⟨_, dx, _, rfl, hp, lk1 (by decide +kernel), ?_⟩
  try simp only [tSeq, tIfS, tNext, tRet, tRetN, tDrop, tAsg, tC, cVar, tOp, tCB, tCons, tNil, tTup, tLst, tIf, tAnd, tOr, tNot, cTest, cTru, oTru, cAnd, cOr, cNot, cUn, cChain, gName, cTupG, gCons, gNil, gSub, oLt, oLe, oGt, oGe, oIs, oIsNot, oSub, oMul, oFdiv, oMod, oPow, cPar, cPar3, cAug, tDNewK, cCall, cAttr, frzE, List.mem_singleton, List.lookup_cons_self, List.getElem?_cons_zero, List.getElem?_cons_succ, List.set_cons_zero, List.set_cons_succ, Option.some.injEq, reduceCtorEq, if_true, if_false, Bool.true_eq_false, Bool.false_eq_true, decide_eq_true_eq, ite_true, ite_false, ↓reduceIte, List.length_cons, List.length_nil, true_and, and_true, exists_eq_left', exists_eq_left, List.cons.injEq]
  refine s_turn Ww (by omega) nd fun ts l d' H1 ht hl1 W1 e1 hl hd' => h1 _ _ (seq_ fun N2 h2 => ifS_ fun A B hA hB => ?_)
  have nla : ∀ {b xs}, H b = some (.lst xs) → H1 b = some (.lst xs) := fun eb => e1 _ _ (fun z => by rw [z, hp] at eb; cases eb) (fun z => by rw [z, ed] at eb; cases eb) eb
  have t1 := nla T.tabs
  have R1 : RAt H1 (t (sd c)) (rs (sd c)) := rat_frq (T.R _) e1 hp ed (T.dt _ _).symm
  simp only [tNot, cTru, cCall, tSeq, tIfS, tNext, tRet, tRetN, tDrop, tAsg, tC, cVar, tOp, tCB, tCons, tNil, tTup, tLst, tIf, tAnd, tOr, tNot, cTest, cTru, oTru, cAnd, cOr, cNot, cUn, cChain, gName, cTupG, gCons, gNil, gSub, oLt, oLe, oGt, oGe, oIs, oIsNot, oSub, oMul, oFdiv, oMod, oPow, cPar, cPar3, cAug, tDNewK, cCall, cAttr, frzE, List.mem_singleton, List.lookup_cons_self, List.getElem?_cons_zero, List.getElem?_cons_succ, List.set_cons_zero, List.set_cons_succ, Option.some.injEq, reduceCtorEq, if_true, if_false, Bool.true_eq_false, Bool.false_eq_true, decide_eq_true_eq, ite_true, ite_false, ↓reduceIte, List.length_cons, List.length_nil, true_and, and_true, exists_eq_left', exists_eq_left, List.cons.injEq]
  refine two_sd t1 ?_
  refine s_law_turned R1 (by omega) nd ps fun us g H2 hu hg2 R2 e2 hg => ?_
  obtain rfl := ht.uniq hu
  have hl2 : H2 l = some (.lst ((goneR ts).map V.str)) := e2 _ _ (fun z => by obtain ⟨_, ee, _⟩ := R1; rw [← z, hl1] at ee; cases ee) hl1
  refine s_alike_strs hl2 hg2 ?_ fun H3 e3 => ?_
  · have := goneR_len ts
    have := told_len ht
    omega
  simp only [Bool.not_true, tSeq, tIfS, tNext, tRet, tRetN, tDrop, tAsg, tC, cVar, tOp, tCB, tCons, tNil, tTup, tLst, tIf, tAnd, tOr, tNot, cTest, cTru, oTru, cAnd, cOr, cNot, cUn, cChain, gName, cTupG, gCons, gNil, gSub, oLt, oLe, oGt, oGe, oIs, oIsNot, oSub, oMul, oFdiv, oMod, oPow, cPar, cPar3, cAug, tDNewK, cCall, cAttr, frzE, List.mem_singleton, List.lookup_cons_self, List.getElem?_cons_zero, List.getElem?_cons_succ, List.set_cons_zero, List.set_cons_succ, Option.some.injEq, reduceCtorEq, if_true, if_false, Bool.true_eq_false, Bool.false_eq_true, decide_eq_true_eq, ite_true, ite_false, ↓reduceIte, List.length_cons, List.length_nil, true_and, and_true, exists_eq_left', exists_eq_left, List.cons.injEq]
  refine hB _ (h2 _ _ ?_)
  have T2 := (T.turned (good_turn (T.g (sd c))) W1 e1 hd' R2 e2).ex e3
  have hl3 := e3 _ _ hl2
  simp only [tDrop]
  refine mC_blt ?_ fun P P' hh q => mono_var hh q
  try simp only [tSeq, tIfS, tNext, tRet, tRetN, tDrop, tAsg, tC, cVar, tOp, tCB, tCons, tNil, tTup, tLst, tIf, tAnd, tOr, tNot, cTest, cTru, oTru, cAnd, cOr, cNot, cUn, cChain, gName, cTupG, gCons, gNil, gSub, oLt, oLe, oGt, oGe, oIs, oIsNot, oSub, oMul, oFdiv, oMod, oPow, cPar, cPar3, cAug, tDNewK, cCall, cAttr, frzE, List.mem_singleton, List.lookup_cons_self, List.getElem?_cons_zero, List.getElem?_cons_succ, List.set_cons_zero, List.set_cons_succ, Option.some.injEq, reduceCtorEq, if_true, if_false, Bool.true_eq_false, Bool.false_eq_true, decide_eq_true_eq, ite_true, ite_false, ↓reduceIte, List.length_cons, List.length_nil, true_and, and_true, exists_eq_left', exists_eq_left, List.cons.injEq]
  refine ⟨ins_lst (K := K) (look_of_lst hl3), "list", tyB_lst (K := K) (look_of_lst hl3), _, b_append, ?_⟩
  simp only [mAppend, hl3]
  refine ⟨?_, h _ _ _ _ (T2.app hl3 (ne_of_none T.both hl) (ne_of_none T.tabs hl) (ne_of_none T.nam hl) (ne_of_none T.cel hl))⟩
  rw [List.length_map]
  have := goneR_len ts
  have := told_len ht
  exact small1000 (by omega)
/-- one goes on by its copy -/
theorem br_copy {a bl tl nl sl : Addr} {nms : List Str} {cs : List V} {p d t : Bool → Addr} {rs : Bool → Rws} {m : Nat} {c way : Int} {s : Str} {D : Ends} {W : WX} {v5 v6 v10 v11 v12 : Option V} (T : Two K H bl tl nl sl nms cs p d t rs m) (hm : m ≤ 62) (hs : isNm s = true) (b1 : tl ≠ bl) (b2 : nl ≠ bl) (b3 : sl ≠ bl)
    (h : ∀ v11 v12 p' d' rs' H', Two K H' bl tl nl sl nms cs p' d' t rs' (m + 1) → D.nx [some (.ref a), some (.ref nl), some (.ref bl), some (.ref tl), some (.int c), v5, v6, some (.int (c % 2)), some (.int way), some (.str s), v10, v11, v12] H') :
    tSeq (tAsg (tOp (oIx K) (cVar 2) (cVar 7)) (gName 11))
      (tSeq (tAsg (mC (gg K (SP K (n+6))) "copied" 0 0 [] (cVar 11) tNil tNil W) (gSub (cVar 2) (cVar 7) oSet))
      (tSeq (tAsg (cCall ((SP K (n+6)) "_law_told") 1 0 (fun vs _ => vs) (tCons (tOp (oIx K) (cVar 3) (cVar 7)) tNil) tNil W) (gName 12))
      (tSeq (tDrop (mC (gg K (SP K (n+6))) "seen" 1 0 [] (tOp (oIx K) (cVar 2) (cVar 7)) (tCons (cVar 9) tNil) tNil W))
      (tSeq (tDrop (cCall ((SP K (n+6)) "_law_seen") 2 0 (fun vs _ => vs) (tCons (tOp (oIx K) (cVar 3) (cVar 7)) (tCons (cVar 9) tNil)) tNil W))
      (tSeq (tIfS (tOr (tNot (cTru K (cCall ((SP K (n+6)) "_law_alike") 2 0 (fun vs _ => vs) (tCons (mC (gg K (SP K (n+6))) "told" 0 0 [] (cVar 11) tNil tNil W) (tCons (cVar 12) tNil)) tNil W))) (cTest (tOp (oEqG (gg K (SP K (n+6)))) (cVar 11) (tOp (oIx K) (cVar 2) (cVar 7)))))
      (tRet (tC (.bl false)))
      tNext)
      (tDrop (mC (gg K (SP K (n+6))) "turn" 0 0 [] (cVar 11) tNil tNil W))))))) D [some (.ref a), some (.ref nl), some (.ref bl), some (.ref tl), some (.int c), v5, v6, some (.int (c % 2)), some (.int way), some (.str s), v10, v11, v12] H := by
  refine seq_ fun N1 h1 => ?_
  try simp only [tSeq, tIfS, tNext, tRet, tRetN, tDrop, tAsg, tC, cVar, tOp, tCB, tCons, tNil, tTup, tLst, tIf, tAnd, tOr, tNot, cTest, cTru, oTru, cAnd, cOr, cNot, cUn, cChain, gName, cTupG, gCons, gNil, gSub, oLt, oLe, oGt, oGe, oIs, oIsNot, oSub, oMul, oFdiv, oMod, oPow, cPar, cPar3, cAug, tDNewK, cCall, cAttr, frzE, List.mem_singleton, List.lookup_cons_self, List.getElem?_cons_zero, List.getElem?_cons_succ, List.set_cons_zero, List.set_cons_succ, Option.some.injEq, reduceCtorEq, if_true, if_false, Bool.true_eq_false, Bool.false_eq_true, decide_eq_true_eq, ite_true, ite_false, ↓reduceIte, List.length_cons, List.length_nil, true_and, and_true, exists_eq_left', exists_eq_left, List.cons.injEq]
  refine two_sd T.both (h1 _ _ (seq_ fun N2 h2 => ?_))
  have Ww := T.W (sd c)
  obtain ⟨⟨dx, hp⟩, kd, ed, _⟩ := id Ww
  obtain ⟨l1, nd, ps⟩ := T.up_g (sd c)
  have hs2 : s.length ≤ 1000 := Nat.le_trans (nm_len hs) (by decide)
  simp only [tAsg]
  refine mC_own (c_copied_0 K _) ?_ fun P P' hh q => mono_var hh q
  try simp only [tSeq, tIfS, tNext, tRet, tRetN, tDrop, tAsg, tC, cVar, tOp, tCB, tCons, tNil, tTup, tLst, tIf, tAnd, tOr, tNot, cTest, cTru, oTru, cAnd, cOr, cNot, cUn, cChain, gName, cTupG, gCons, gNil, gSub, oLt, oLe, oGt, oGe, oIs, oIsNot, oSub, oMul, oFdiv, oMod, oPow, cPar, cPar3, cAug, tDNewK, cCall, cAttr, frzE, List.mem_singleton, List.lookup_cons_self, List.getElem?_cons_zero, List.getElem?_cons_succ, List.set_cons_zero, List.set_cons_succ, Option.some.injEq, reduceCtorEq, if_true, if_false, Bool.true_eq_false, Bool.false_eq_true, decide_eq_true_eq, ite_true, ite_false, ↓reduceIte, List.length_cons, List.length_nil, true_and, and_true, exists_eq_left', exists_eq_left, List.cons.injEq]
  refine ⟨_, dx, _, rfl, hp, lk1 (by decide +kernel), ?_⟩
  try simp only [tSeq, tIfS, tNext, tRet, tRetN, tDrop, tAsg, tC, cVar, tOp, tCB, tCons, tNil, tTup, tLst, tIf, tAnd, tOr, tNot, cTest, cTru, oTru, cAnd, cOr, cNot, cUn, cChain, gName, cTupG, gCons, gNil, gSub, oLt, oLe, oGt, oGe, oIs, oIsNot, oSub, oMul, oFdiv, oMod, oPow, cPar, cPar3, cAug, tDNewK, cCall, cAttr, frzE, List.mem_singleton, List.lookup_cons_self, List.getElem?_cons_zero, List.getElem?_cons_succ, List.set_cons_zero, List.set_cons_succ, Option.some.injEq, reduceCtorEq, if_true, if_false, Bool.true_eq_false, Bool.false_eq_true, decide_eq_true_eq, ite_true, ite_false, ↓reduceIte, List.length_cons, List.length_nil, true_and, and_true, exists_eq_left', exists_eq_left, List.cons.injEq]
  refine s_copied Ww fun p' d' H1 e1 hp' hd' W1 => ?_
  have T1 := T.ex e1
  have setq : ∀ R : Hp → Prop, R (upd H1 bl (.lst [.ref (upA p (sd c) p' false), .ref (upA p (sd c) p' true)])) → oSet (.ref bl) (.int (c % 2)) (.ref p') H1 R := fun R q => by
    have m2 := mod_b (a := c) (m := 2) (by decide)
    unfold sd upA at q
    rcases (by omega : c % 2 = 0 ∨ c % 2 = 1) with e | e
    · rw [e] at q ⊢
      simp only [oSet, T1.both]
      exact q
    · rw [e] at q ⊢
      simp only [oSet, T1.both]
      exact q
  refine setq _ ?_
  have fp : ∀ v, p v ≠ p' := fun v => by obtain ⟨⟨_, z⟩, _⟩ := T.W v; exact ne_of_none z hp'
  have fd : ∀ v, d v ≠ d' := fun v => by obtain ⟨_, _, z, _⟩ := T.W v; exact ne_of_none z hd'
  have ft : ∀ v, t v ≠ d' := fun v => by obtain ⟨_, z, _⟩ := T.R v; exact ne_of_none z hd'
  have T2 := (T1.put fp fd ft W1 ⟨ne_of_none T.both hp', ne_of_none T.both hd'⟩).resolve_right (fun z => z.elim b1 fun z => z.elim b2 b3)
  have WL2 : WAt K (upd H1 bl (.lst [.ref (upA p (sd c) p' false), .ref (upA p (sd c) p' true)])) (p (sd c)) (d (sd c)) (rs (sd c)) := wat_lst (T1.W _) T1.both
  generalize (upd H1 bl (.lst [.ref (upA p (sd c) p' false), .ref (upA p (sd c) p' true)])) = H2 at T2 WL2 ⊢
  have P1 : upA p (sd c) p' (sd c) = p' := by unfold upA; rw [if_pos rfl]
  have D1 : upA d (sd c) d' (sd c) = d' := by unfold upA; rw [if_pos rfl]
  have dn : ∀ v, upA d (sd c) d' v ≠ d (sd c) := fun v => by
    unfold upA
    by_cases z : v = sd c
    · rw [if_pos z]; exact (fd _).symm
    · rw [if_neg z]; exact T.d_ne z
  have pn : ∀ v, upA p (sd c) p' v ≠ p (sd c) := fun v => by
    unfold upA
    by_cases z : v = sd c
    · rw [if_pos z]; exact (fp _).symm
    · rw [if_neg z]; exact T.p_ne z
  refine h2 _ _ (seq_ fun N3 h3 => ?_)
  simp only [tAsg, cCall, tSeq, tIfS, tNext, tRet, tRetN, tDrop, tAsg, tC, cVar, tOp, tCB, tCons, tNil, tTup, tLst, tIf, tAnd, tOr, tNot, cTest, cTru, oTru, cAnd, cOr, cNot, cUn, cChain, gName, cTupG, gCons, gNil, gSub, oLt, oLe, oGt, oGe, oIs, oIsNot, oSub, oMul, oFdiv, oMod, oPow, cPar, cPar3, cAug, tDNewK, cCall, cAttr, frzE, List.mem_singleton, List.lookup_cons_self, List.getElem?_cons_zero, List.getElem?_cons_succ, List.set_cons_zero, List.set_cons_succ, Option.some.injEq, reduceCtorEq, if_true, if_false, Bool.true_eq_false, Bool.false_eq_true, decide_eq_true_eq, ite_true, ite_false, ↓reduceIte, List.length_cons, List.length_nil, true_and, and_true, exists_eq_left', exists_eq_left, List.cons.injEq]
  refine two_sd T2.tabs ?_
  refine s_law_told (T2.R _) (by omega) nd fun ts q H3 ht e3 hq R3 => h3 _ _ (seq_ fun N4 h4 => ?_)
  have T3 := T2.ex e3
  have WL3 := WL2.ex e3
  simp only [tDrop]
  refine mC_own (c_seen_1 K _) ?_ fun P P' hh q => mono_ix hh q
  try simp only [tSeq, tIfS, tNext, tRet, tRetN, tDrop, tAsg, tC, cVar, tOp, tCB, tCons, tNil, tTup, tLst, tIf, tAnd, tOr, tNot, cTest, cTru, oTru, cAnd, cOr, cNot, cUn, cChain, gName, cTupG, gCons, gNil, gSub, oLt, oLe, oGt, oGe, oIs, oIsNot, oSub, oMul, oFdiv, oMod, oPow, cPar, cPar3, cAug, tDNewK, cCall, cAttr, frzE, List.mem_singleton, List.lookup_cons_self, List.getElem?_cons_zero, List.getElem?_cons_succ, List.set_cons_zero, List.set_cons_succ, Option.some.injEq, reduceCtorEq, if_true, if_false, Bool.true_eq_false, Bool.false_eq_true, decide_eq_true_eq, ite_true, ite_false, ↓reduceIte, List.length_cons, List.length_nil, true_and, and_true, exists_eq_left', exists_eq_left, List.cons.injEq]
  refine two_sd T3.both ?_
  have W3 := T3.W (sd c)
  obtain ⟨⟨dx3, hp3⟩, kd3, ed3, _⟩ := id W3
  refine ⟨_, dx3, _, rfl, hp3, lk1 (by decide +kernel), ?_⟩
  try simp only [tSeq, tIfS, tNext, tRet, tRetN, tDrop, tAsg, tC, cVar, tOp, tCB, tCons, tNil, tTup, tLst, tIf, tAnd, tOr, tNot, cTest, cTru, oTru, cAnd, cOr, cNot, cUn, cChain, gName, cTupG, gCons, gNil, gSub, oLt, oLe, oGt, oGe, oIs, oIsNot, oSub, oMul, oFdiv, oMod, oPow, cPar, cPar3, cAug, tDNewK, cCall, cAttr, frzE, List.mem_singleton, List.lookup_cons_self, List.getElem?_cons_zero, List.getElem?_cons_succ, List.set_cons_zero, List.set_cons_succ, Option.some.injEq, reduceCtorEq, if_true, if_false, Bool.true_eq_false, Bool.false_eq_true, decide_eq_true_eq, ite_true, ite_false, ↓reduceIte, List.length_cons, List.length_nil, true_and, and_true, exists_eq_left', exists_eq_left, List.cons.injEq]
  refine s_seen W3 (by omega) hs2 hs fun H4 W4 e4 => h4 _ _ (seq_ fun N5 h5 => ?_)
  obtain ⟨t4, R4⟩ := T3.tab1 e4
  simp only [tDrop, cCall, tSeq, tIfS, tNext, tRet, tRetN, tDrop, tAsg, tC, cVar, tOp, tCB, tCons, tNil, tTup, tLst, tIf, tAnd, tOr, tNot, cTest, cTru, oTru, cAnd, cOr, cNot, cUn, cChain, gName, cTupG, gCons, gNil, gSub, oLt, oLe, oGt, oGe, oIs, oIsNot, oSub, oMul, oFdiv, oMod, oPow, cPar, cPar3, cAug, tDNewK, cCall, cAttr, frzE, List.mem_singleton, List.lookup_cons_self, List.getElem?_cons_zero, List.getElem?_cons_succ, List.set_cons_zero, List.set_cons_succ, Option.some.injEq, reduceCtorEq, if_true, if_false, Bool.true_eq_false, Bool.false_eq_true, decide_eq_true_eq, ite_true, ite_false, ↓reduceIte, List.length_cons, List.length_nil, true_and, and_true, exists_eq_left', exists_eq_left, List.cons.injEq]
  refine two_sd t4 ?_
  refine s_law_seen R4 (by omega) fun H5 R5 e5 => ?_
  have T5 := T3.seen (s := s) (good_put (T3.g (sd c)) hs) W4 e4 R5 e5
  obtain ⟨kt, et, _⟩ := R4
  have WL5 : WAt K H5 (p (sd c)) (d (sd c)) (rs (sd c)) := wat_fr (wat_fr WL3 e4 ed3 (dn _).symm) e5 et (T.dt _ _)
  have Rq : RAt H5 q ts := rat_fr (rat_fr R3 e4 ed3 (fun z => by
    obtain ⟨_, _, zz, _⟩ := T2.W (sd c)
    exact ne_of_none zz hq z.symm)) e5 et (fun z => by
    obtain ⟨_, zz, _⟩ := T2.R (sd c)
    exact ne_of_none zz hq z.symm)
  have okt : ∀ s ∈ ts.map (·.1), okS s := fun s hs => by
    obtain ⟨r, hr, rfl⟩ := List.mem_map.mp hs
    exact nm_ok ((T.g (sd c)).2.2 r (told_mem nd ht hr)).1
  refine h5 _ _ (seq_ fun N6 h6 => ifS_ fun A B hA hB => ?_)
  simp only [tOr, tNot, cTru, cCall, tSeq, tIfS, tNext, tRet, tRetN, tDrop, tAsg, tC, cVar, tOp, tCB, tCons, tNil, tTup, tLst, tIf, tAnd, tOr, tNot, cTest, cTru, oTru, cAnd, cOr, cNot, cUn, cChain, gName, cTupG, gCons, gNil, gSub, oLt, oLe, oGt, oGe, oIs, oIsNot, oSub, oMul, oFdiv, oMod, oPow, cPar, cPar3, cAug, tDNewK, cCall, cAttr, frzE, List.mem_singleton, List.lookup_cons_self, List.getElem?_cons_zero, List.getElem?_cons_succ, List.set_cons_zero, List.set_cons_succ, Option.some.injEq, reduceCtorEq, if_true, if_false, Bool.true_eq_false, Bool.false_eq_true, decide_eq_true_eq, ite_true, ite_false, ↓reduceIte, List.length_cons, List.length_nil, true_and, and_true, exists_eq_left', exists_eq_left, List.cons.injEq]
  refine mC_own (c_told_0 K _) ?_ fun P P' hh q => mono_var hh q
  obtain ⟨⟨dx5, hp5⟩, kd5, ed5, _⟩ := id WL5
  try simp only [tSeq, tIfS, tNext, tRet, tRetN, tDrop, tAsg, tC, cVar, tOp, tCB, tCons, tNil, tTup, tLst, tIf, tAnd, tOr, tNot, cTest, cTru, oTru, cAnd, cOr, cNot, cUn, cChain, gName, cTupG, gCons, gNil, gSub, oLt, oLe, oGt, oGe, oIs, oIsNot, oSub, oMul, oFdiv, oMod, oPow, cPar, cPar3, cAug, tDNewK, cCall, cAttr, frzE, List.mem_singleton, List.lookup_cons_self, List.getElem?_cons_zero, List.getElem?_cons_succ, List.set_cons_zero, List.set_cons_succ, Option.some.injEq, reduceCtorEq, if_true, if_false, Bool.true_eq_false, Bool.false_eq_true, decide_eq_true_eq, ite_true, ite_false, ↓reduceIte, List.length_cons, List.length_nil, true_and, and_true, exists_eq_left', exists_eq_left, List.cons.injEq]
  refine ⟨_, dx5, _, rfl, hp5, lk1 (by decide +kernel), ?_⟩
  try simp only [tSeq, tIfS, tNext, tRet, tRetN, tDrop, tAsg, tC, cVar, tOp, tCB, tCons, tNil, tTup, tLst, tIf, tAnd, tOr, tNot, cTest, cTru, oTru, cAnd, cOr, cNot, cUn, cChain, gName, cTupG, gCons, gNil, gSub, oLt, oLe, oGt, oGe, oIs, oIsNot, oSub, oMul, oFdiv, oMod, oPow, cPar, cPar3, cAug, tDNewK, cCall, cAttr, frzE, List.mem_singleton, List.lookup_cons_self, List.getElem?_cons_zero, List.getElem?_cons_succ, List.set_cons_zero, List.set_cons_succ, Option.some.injEq, reduceCtorEq, if_true, if_false, Bool.true_eq_false, Bool.false_eq_true, decide_eq_true_eq, ite_true, ite_false, ↓reduceIte, List.length_cons, List.length_nil, true_and, and_true, exists_eq_left', exists_eq_left, List.cons.injEq]
  refine s_told WL5 (by omega) nd fun us q2 H6 hu e6 hq2 R6 => ?_
  obtain rfl := ht.uniq hu
  refine s_alike_dict R6 (Rq.ex e6) (fun z => by obtain ⟨_, zz, _⟩ := Rq; exact ne_of_none zz hq2 z.symm) (by rw [told_len ht]; omega) (told_nd nd ht) okt fun H7 e7 => ?_
  simp only [Bool.not_true, tSeq, tIfS, tNext, tRet, tRetN, tDrop, tAsg, tC, cVar, tOp, tCB, tCons, tNil, tTup, tLst, tIf, tAnd, tOr, tNot, cTest, cTru, oTru, cAnd, cOr, cNot, cUn, cChain, gName, cTupG, gCons, gNil, gSub, oLt, oLe, oGt, oGe, oIs, oIsNot, oSub, oMul, oFdiv, oMod, oPow, cPar, cPar3, cAug, tDNewK, cCall, cAttr, frzE, List.mem_singleton, List.lookup_cons_self, List.getElem?_cons_zero, List.getElem?_cons_succ, List.set_cons_zero, List.set_cons_succ, Option.some.injEq, reduceCtorEq, if_true, if_false, Bool.true_eq_false, Bool.false_eq_true, decide_eq_true_eq, ite_true, ite_false, ↓reduceIte, List.length_cons, List.length_nil, true_and, and_true, exists_eq_left', exists_eq_left, List.cons.injEq]
  have T7 := T5.ex (e6.trans e7)
  have WL7 := WL5.ex (e6.trans e7)
  refine two_sd T7.both ?_
  have U : up rs (sd c) (rput (rs (sd c)) s (cnt (rs (sd c)) s + 1, 5)) (sd c) = rput (rs (sd c)) s (cnt (rs (sd c)) s + 1, 5) := by unfold up; rw [if_pos rfl]
  have W7 := T7.W (sd c)
  obtain ⟨l7, nd7, _⟩ := T7.up_g (sd c)
  refine eq_own WL7 W7 (by omega) (by omega) nd nd7 fun ta tb H8 hta htb e8 => ?_
  rw [U] at htb
  rw [eqT_seen nd hta htb]
  try simp only [tSeq, tIfS, tNext, tRet, tRetN, tDrop, tAsg, tC, cVar, tOp, tCB, tCons, tNil, tTup, tLst, tIf, tAnd, tOr, tNot, cTest, cTru, oTru, cAnd, cOr, cNot, cUn, cChain, gName, cTupG, gCons, gNil, gSub, oLt, oLe, oGt, oGe, oIs, oIsNot, oSub, oMul, oFdiv, oMod, oPow, cPar, cPar3, cAug, tDNewK, cCall, cAttr, frzE, List.mem_singleton, List.lookup_cons_self, List.getElem?_cons_zero, List.getElem?_cons_succ, List.set_cons_zero, List.set_cons_succ, Option.some.injEq, reduceCtorEq, if_true, if_false, Bool.true_eq_false, Bool.false_eq_true, decide_eq_true_eq, ite_true, ite_false, ↓reduceIte, List.length_cons, List.length_nil, true_and, and_true, exists_eq_left', exists_eq_left, List.cons.injEq]
  refine hB _ (h6 _ _ ?_)
  have T8 := T7.ex e8
  have WL8 := WL7.ex e8
  obtain ⟨⟨dx8, hp8⟩, kd8, ed8, _⟩ := id WL8
  simp only [tDrop]
  refine mC_own (c_turn_0 K _) ?_ fun P P' hh q => mono_var hh q
  try simp only [tSeq, tIfS, tNext, tRet, tRetN, tDrop, tAsg, tC, cVar, tOp, tCB, tCons, tNil, tTup, tLst, tIf, tAnd, tOr, tNot, cTest, cTru, oTru, cAnd, cOr, cNot, cUn, cChain, gName, cTupG, gCons, gNil, gSub, oLt, oLe, oGt, oGe, oIs, oIsNot, oSub, oMul, oFdiv, oMod, oPow, cPar, cPar3, cAug, tDNewK, cCall, cAttr, frzE, List.mem_singleton, List.lookup_cons_self, List.getElem?_cons_zero, List.getElem?_cons_succ, List.set_cons_zero, List.set_cons_succ, Option.some.injEq, reduceCtorEq, if_true, if_false, Bool.true_eq_false, Bool.false_eq_true, decide_eq_true_eq, ite_true, ite_false, ↓reduceIte, List.length_cons, List.length_nil, true_and, and_true, exists_eq_left', exists_eq_left, List.cons.injEq]
  refine ⟨_, dx8, _, rfl, hp8, lk1 (by decide +kernel), ?_⟩
  try simp only [tSeq, tIfS, tNext, tRet, tRetN, tDrop, tAsg, tC, cVar, tOp, tCB, tCons, tNil, tTup, tLst, tIf, tAnd, tOr, tNot, cTest, cTru, oTru, cAnd, cOr, cNot, cUn, cChain, gName, cTupG, gCons, gNil, gSub, oLt, oLe, oGt, oGe, oIs, oIsNot, oSub, oMul, oFdiv, oMod, oPow, cPar, cPar3, cAug, tDNewK, cCall, cAttr, frzE, List.mem_singleton, List.lookup_cons_self, List.getElem?_cons_zero, List.getElem?_cons_succ, List.set_cons_zero, List.set_cons_succ, Option.some.injEq, reduceCtorEq, if_true, if_false, Bool.true_eq_false, Bool.false_eq_true, decide_eq_true_eq, ite_true, ite_false, ↓reduceIte, List.length_cons, List.length_nil, true_and, and_true, exists_eq_left', exists_eq_left, List.cons.injEq]
  refine s_turn WL8 (by omega) nd fun ts l d2 H9 ht hl9 W9 e9 hl hd2 => ?_
  exact h _ _ _ _ _ _ (T8.other e9 hp8 ed8 dn (fun v => (T.dt _ _).symm) pn)
end
end WR.L

set_option Elab.async false
set_option linter.all false
set_option maxRecDepth 100000
set_option maxHeartbeats 1000000
namespace WR.L
open PySem PySem.Spec PyProof.Rows L2
section
variable {K : PySem.W.Frag} {n : Nat} {H H' : Hp} {Q : VK} {E : XK}
def Sg (a nl bl tl : Addr) (σ : L2.St) : Prop := ∃ v4 v5 v6 v7 v8 v9 v10 v11 v12, σ = [some (.ref a), some (.ref nl), some (.ref bl), some (.ref tl), v4, v5, v6, v7, v8, v9, v10, v11, v12]
theorem two_k {bl : Addr} {f : Bool → Addr} {j : Nat} (hj : j < 2) (h : H bl = some (.lst [.ref (f false), .ref (f true)])) (q : ∀ w, Q (.ref (f w)) H) : oIx K (.ref bl) (.int (0 + (j : Int))) H Q := by
  match j, hj with
  | 0, _ => rw [ix_lst (look_of_lst h) (v := .ref (f false)) rfl]; exact q _
  | 1, _ => rw [ix_lst (look_of_lst h) (v := .ref (f true)) rfl]; exact q _
theorem two_kk {bl tl : Addr} {f g : Bool → Addr} {j : Nat} (hj : j < 2) : ∃ w, (∀ {H : Hp} {Q : VK}, H bl = some (.lst [.ref (f false), .ref (f true)]) → Q (.ref (f w)) H → oIx K (.ref bl) (.int (0 + (j : Int))) H Q) ∧ (∀ {H : Hp} {Q : VK}, H tl = some (.lst [.ref (g false), .ref (g true)]) → Q (.ref (g w)) H → oIx K (.ref tl) (.int (0 + (j : Int))) H Q) := by
  match j, hj with
  | 0, _ => exact ⟨false, fun h q => by rw [ix_lst (look_of_lst h) (v := .ref (f false)) rfl]; exact q, fun h q => by rw [ix_lst (look_of_lst h) (v := .ref (g false)) rfl]; exact q⟩
  | 1, _ => exact ⟨true, fun h q => by rw [ix_lst (look_of_lst h) (v := .ref (f true)) rfl]; exact q, fun h q => by rw [ix_lst (look_of_lst h) (v := .ref (g true)) rfl]; exact q⟩
theorem nm_ix {nl : Addr} {nms : List Str} {z : Int} (h : H nl = some (.lst (nms.map V.str))) (h5 : nms.length = 5) (q : ∀ s ∈ nms, Q (.str s) H) : oIx K (.ref nl) (.int (z % 5)) H Q := by
  have m5 := mod_b (a := z) (m := 5) (by decide)
  obtain ⟨k, hk⟩ : ∃ k : Nat, z % 5 = (k : Int) := ⟨(z % 5).toNat, by omega⟩
  have hk5 : k < nms.length := by omega
  rw [hk, ix_lst (look_of_lst h) (v := .str nms[k]) (by rw [atI_nat, List.getElem?_map, List.getElem?_eq_getElem hk5]; rfl)]
  exact q _ (List.getElem_mem hk5)
section
variable {a bl tl nl sl : Addr} {nms : List Str} {cs : List V} {p d t : Bool → Addr} {rs : Bool → Rws} {m : Nat} {D : Ends} {W : WX} {σ : L2.St}
/-- both sides are right -/
theorem both_right (T : Two K H bl tl nl sl nms cs p d t rs m) (hm : m ≤ 63) (hok : ∀ s ∈ nms, isNm s = true) (h5 : nms.length = 5) (hσ : Sg a nl bl tl σ) (h : ∀ σ' H', Sg a nl bl tl σ' → Ex H H' → D.nx σ' H') :
    orL (cFor (cRng1 (tCons (tC (.int 2)) tNil)) (gName 6)
      (tIfS (tNot (cTru K (cCall ((SP K (n+6)) "_law_right") 3 0 (fun vs _ => vs) (tCons (tOp (oIx K) (cVar 2) (cVar 6)) (tCons (tOp (oIx K) (cVar 3) (cVar 6)) (tCons (cVar 1) tNil))) tNil W)))
      (tRet (tC (.bl false)))
      tNext)) D σ H := by
  refine .inl ?_
  simp only [cFor, cRng1, tSeq, tIfS, tNext, tRet, tRetN, tDrop, tAsg, tC, cVar, tOp, tCB, tCons, tNil, tTup, tLst, tIf, tAnd, tOr, tNot, cTest, cTru, oTru, cAnd, cOr, cNot, cUn, cChain, gName, cTupG, gCons, gNil, gSub, oLt, oLe, oGt, oGe, oIs, oIsNot, oSub, oMul, oFdiv, oMod, oPow, cPar, cPar3, cAug, tDNewK, cCall, cAttr, frzE, List.mem_singleton, List.lookup_cons_self, List.getElem?_cons_zero, List.getElem?_cons_succ, List.set_cons_zero, List.set_cons_succ, Option.some.injEq, reduceCtorEq, if_true, if_false, Bool.true_eq_false, Bool.false_eq_true, decide_eq_true_eq, ite_true, ite_false, ↓reduceIte, List.length_cons, List.length_nil, true_and, and_true, exists_eq_left', exists_eq_left, List.cons.injEq]
  refine ⟨by decide, ?_⟩
  refine lp_inv (n := 2) (fun j σ H' => Sg a nl bl tl σ ∧ Ex H H') ?_ ?_ ⟨hσ, Ex.refl⟩
  · rintro σ H' ⟨hs, e⟩
    exact ⟨Nat.le_refl _, h _ _ hs e⟩
  · rintro j σ H' hj ⟨⟨v4, v5, v6, v7, v8, v9, v10, v11, v12, rfl⟩, e⟩ R hR
    refine ⟨hj, ?_⟩
    rintro x H2 ⟨rfl, rfl⟩
    have T1 := T.ex e
    obtain ⟨w, i1, i2⟩ := two_kk (K := K) (bl := bl) (tl := tl) (f := p) (g := t) hj
    refine ifS_ fun A B hA hB => ?_
    simp only [tNot, cTru, cCall, tSeq, tIfS, tNext, tRet, tRetN, tDrop, tAsg, tC, cVar, tOp, tCB, tCons, tNil, tTup, tLst, tIf, tAnd, tOr, tNot, cTest, cTru, oTru, cAnd, cOr, cNot, cUn, cChain, gName, cTupG, gCons, gNil, gSub, oLt, oLe, oGt, oGe, oIs, oIsNot, oSub, oMul, oFdiv, oMod, oPow, cPar, cPar3, cAug, tDNewK, cCall, cAttr, frzE, List.mem_singleton, List.lookup_cons_self, List.getElem?_cons_zero, List.getElem?_cons_succ, List.set_cons_zero, List.set_cons_succ, Option.some.injEq, reduceCtorEq, if_true, if_false, Bool.true_eq_false, Bool.false_eq_true, decide_eq_true_eq, ite_true, ite_false, ↓reduceIte, List.length_cons, List.length_nil, true_and, and_true, exists_eq_left', exists_eq_left, List.cons.injEq]
    refine i1 T1.both (i2 T1.tabs ?_)
    refine s_law_right (T1.W w) (T1.R w) (T1.g w) hm T1.nam hok h5 fun H3 e3 => ?_
    simp only [Bool.not_true, tSeq, tIfS, tNext, tRet, tRetN, tDrop, tAsg, tC, cVar, tOp, tCB, tCons, tNil, tTup, tLst, tIf, tAnd, tOr, tNot, cTest, cTru, oTru, cAnd, cOr, cNot, cUn, cChain, gName, cTupG, gCons, gNil, gSub, oLt, oLe, oGt, oGe, oIs, oIsNot, oSub, oMul, oFdiv, oMod, oPow, cPar, cPar3, cAug, tDNewK, cCall, cAttr, frzE, List.mem_singleton, List.lookup_cons_self, List.getElem?_cons_zero, List.getElem?_cons_succ, List.set_cons_zero, List.set_cons_succ, Option.some.injEq, reduceCtorEq, if_true, if_false, Bool.true_eq_false, Bool.false_eq_true, decide_eq_true_eq, ite_true, ite_false, ↓reduceIte, List.length_cons, List.length_nil, true_and, and_true, exists_eq_left', exists_eq_left, List.cons.injEq]
    exact hB _ (hR _ _ ⟨⟨_, _, _, _, _, _, _, _, _, rfl⟩, e.trans e3⟩)
/-- equal just where they tell the same -/
theorem both_same (T : Two K H bl tl nl sl nms cs p d t rs m) (hm : m ≤ 63) (hσ : Sg a nl bl tl σ) (h : ∀ H', Ex H H' → D.nx σ H') :
    tIfS (cTest (tOp (oNeG (gg K (SP K (n+6)))) (tOp (oEqG (gg K (SP K (n+6)))) (tOp (oIx K) (cVar 2) (tC (.int 0))) (tOp (oIx K) (cVar 2) (tC (.int 1)))) (tOp (oEqG (gg K (SP K (n+6)))) (cCall ((SP K (n+6)) "_law_told") 1 0 (fun vs _ => vs) (tCons (tOp (oIx K) (cVar 3) (tC (.int 0))) tNil) tNil W) (cCall ((SP K (n+6)) "_law_told") 1 0 (fun vs _ => vs) (tCons (tOp (oIx K) (cVar 3) (tC (.int 1))) tNil) tNil W))))
      (tRet (tC (.bl false)))
      tNext D σ H := by
  obtain ⟨v4, v5, v6, v7, v8, v9, v10, v11, v12, rfl⟩ := hσ
  refine ifS_ fun A B hA hB => ?_
  have g0 := T.up_g false
  have g1 := T.up_g true
  simp only [cCall, tSeq, tIfS, tNext, tRet, tRetN, tDrop, tAsg, tC, cVar, tOp, tCB, tCons, tNil, tTup, tLst, tIf, tAnd, tOr, tNot, cTest, cTru, oTru, cAnd, cOr, cNot, cUn, cChain, gName, cTupG, gCons, gNil, gSub, oLt, oLe, oGt, oGe, oIs, oIsNot, oSub, oMul, oFdiv, oMod, oPow, cPar, cPar3, cAug, tDNewK, cCall, cAttr, frzE, List.mem_singleton, List.lookup_cons_self, List.getElem?_cons_zero, List.getElem?_cons_succ, List.set_cons_zero, List.set_cons_succ, Option.some.injEq, reduceCtorEq, if_true, if_false, Bool.true_eq_false, Bool.false_eq_true, decide_eq_true_eq, ite_true, ite_false, ↓reduceIte, List.length_cons, List.length_nil, true_and, and_true, exists_eq_left', exists_eq_left, List.cons.injEq]
  rw [ix_lst (look_of_lst T.both) (v := .ref (p false)) rfl, ix_lst (look_of_lst T.both) (v := .ref (p true)) rfl]
  refine eq_own (T.W false) (T.W true) (by omega) (by omega) g0.2.1 g1.2.1 fun ts us H1 ht hu e1 => ?_
  have T1 := T.ex e1
  rw [ix_lst (look_of_lst T1.tabs) (v := .ref (t false)) rfl]
  refine s_law_told (T1.R false) (by omega) g0.2.1 fun ts' q1 H2 ht' e2 hq1 R2 => ?_
  have T2 := T1.ex e2
  rw [ix_lst (look_of_lst T2.tabs) (v := .ref (t true)) rfl]
  refine s_law_told (T2.R true) (by omega) g1.2.1 fun us' q2 H3 hu' e3 hq2 R3 => ?_
  obtain rfl := ht.uniq ht'
  obtain rfl := hu.uniq hu'
  refine eq_told (R2.ex e3) R3 ?_
  refine ne_scal rfl rfl rfl ?_
  simp only [decide_true, Bool.not_true, tSeq, tIfS, tNext, tRet, tRetN, tDrop, tAsg, tC, cVar, tOp, tCB, tCons, tNil, tTup, tLst, tIf, tAnd, tOr, tNot, cTest, cTru, oTru, cAnd, cOr, cNot, cUn, cChain, gName, cTupG, gCons, gNil, gSub, oLt, oLe, oGt, oGe, oIs, oIsNot, oSub, oMul, oFdiv, oMod, oPow, cPar, cPar3, cAug, tDNewK, cCall, cAttr, frzE, List.mem_singleton, List.lookup_cons_self, List.getElem?_cons_zero, List.getElem?_cons_succ, List.set_cons_zero, List.set_cons_succ, Option.some.injEq, reduceCtorEq, if_true, if_false, Bool.true_eq_false, Bool.false_eq_true, decide_eq_true_eq, ite_true, ite_false, ↓reduceIte, List.length_cons, List.length_nil, true_and, and_true, exists_eq_left', exists_eq_left, List.cons.injEq]
  exact hB _ (h _ ((e1.trans e2).trans e3))
/-- one cell -/
theorem law_cell {c : Int} {v5 v6 v7 v8 v9 v10 v11 v12 : Option V} (T : Two K H bl tl nl sl nms cs p d t rs m) (hm : m ≤ 62) (hok : ∀ s ∈ nms, isNm s = true) (h5 : nms.length = 5) (b1 : tl ≠ bl) (b2 : nl ≠ bl) (b3 : sl ≠ bl)
    (h : ∀ p' d' rs' σ' H', Sg a nl bl tl σ' → Two K H' bl tl nl sl nms cs p' d' t rs' (m + 1) → D.nx σ' H') :
    (tSeq (tAsg (tOp oMod (cVar 4) (tC (.int 2))) (gName 7))
  (tSeq (tAsg (tOp oMod (tOp oFdiv (cVar 4) (tC (.int 2))) (tC (.int 8))) (gName 8))
  (tSeq (tAsg (tOp (oIx K) (cVar 1) (tOp oMod (tOp oFdiv (cVar 4) (tC (.int 16))) (tC (.int 5)))) (gName 9))
  (tSeq (tIfS (cTest (tOp oLt (cVar 8) (tC (.int 4))))
  (tSeq (tAsg (mC (gg K (SP K (n+6))) "seen" 1 0 [] (tOp (oIx K) (cVar 2) (cVar 7)) (tCons (cVar 9) tNil) tNil W) (gName 10))
  (tIfS (tNot (cTru K (cCall ((SP K (n+6)) "_law_alike") 2 0 (fun vs _ => vs) (tCons (cVar 10) (tCons (cCall ((SP K (n+6)) "_law_seen") 2 0 (fun vs _ => vs) (tCons (tOp (oIx K) (cVar 3) (cVar 7)) (tCons (cVar 9) tNil)) tNil W) tNil)) tNil W)))
  (tRet (tC (.bl false)))
  tNext))
  (tIfS (cTest (tOp oLt (cVar 8) (tC (.int 7))))
  (tSeq (tAsg (mC (gg K (SP K (n+6))) "turn" 0 0 [] (tOp (oIx K) (cVar 2) (cVar 7)) tNil tNil W) (gName 10))
  (tSeq (tIfS (tNot (cTru K (cCall ((SP K (n+6)) "_law_alike") 2 0 (fun vs _ => vs) (tCons (cVar 10) (tCons (cCall ((SP K (n+6)) "_law_turned") 1 0 (fun vs _ => vs) (tCons (tOp (oIx K) (cVar 3) (cVar 7)) tNil) tNil W) tNil)) tNil W)))
  (tRet (tC (.bl false)))
  tNext)
  (tDrop (mC (gg K (SP K (n+6))) "append" 1 0 [] (cVar 10) (tCons (cVar 9) tNil) tNil W))))
  (tSeq (tAsg (tOp (oIx K) (cVar 2) (cVar 7)) (gName 11))
  (tSeq (tAsg (mC (gg K (SP K (n+6))) "copied" 0 0 [] (cVar 11) tNil tNil W) (gSub (cVar 2) (cVar 7) oSet))
  (tSeq (tAsg (cCall ((SP K (n+6)) "_law_told") 1 0 (fun vs _ => vs) (tCons (tOp (oIx K) (cVar 3) (cVar 7)) tNil) tNil W) (gName 12))
  (tSeq (tDrop (mC (gg K (SP K (n+6))) "seen" 1 0 [] (tOp (oIx K) (cVar 2) (cVar 7)) (tCons (cVar 9) tNil) tNil W))
  (tSeq (tDrop (cCall ((SP K (n+6)) "_law_seen") 2 0 (fun vs _ => vs) (tCons (tOp (oIx K) (cVar 3) (cVar 7)) (tCons (cVar 9) tNil)) tNil W))
  (tSeq (tIfS (tOr (tNot (cTru K (cCall ((SP K (n+6)) "_law_alike") 2 0 (fun vs _ => vs) (tCons (mC (gg K (SP K (n+6))) "told" 0 0 [] (cVar 11) tNil tNil W) (tCons (cVar 12) tNil)) tNil W))) (cTest (tOp (oEqG (gg K (SP K (n+6)))) (cVar 11) (tOp (oIx K) (cVar 2) (cVar 7)))))
  (tRet (tC (.bl false)))
  tNext)
  (tDrop (mC (gg K (SP K (n+6))) "turn" 0 0 [] (cVar 11) tNil tNil W))))))))))
  (tSeq (orL (cFor (cRng1 (tCons (tC (.int 2)) tNil)) (gName 6)
  (tIfS (tNot (cTru K (cCall ((SP K (n+6)) "_law_right") 3 0 (fun vs _ => vs) (tCons (tOp (oIx K) (cVar 2) (cVar 6)) (tCons (tOp (oIx K) (cVar 3) (cVar 6)) (tCons (cVar 1) tNil))) tNil W)))
  (tRet (tC (.bl false)))
  tNext)))
  (tIfS (cTest (tOp (oNeG (gg K (SP K (n+6)))) (tOp (oEqG (gg K (SP K (n+6)))) (tOp (oIx K) (cVar 2) (tC (.int 0))) (tOp (oIx K) (cVar 2) (tC (.int 1)))) (tOp (oEqG (gg K (SP K (n+6)))) (cCall ((SP K (n+6)) "_law_told") 1 0 (fun vs _ => vs) (tCons (tOp (oIx K) (cVar 3) (tC (.int 0))) tNil) tNil W) (cCall ((SP K (n+6)) "_law_told") 1 0 (fun vs _ => vs) (tCons (tOp (oIx K) (cVar 3) (tC (.int 1))) tNil) tNil W))))
  (tRet (tC (.bl false)))
  tNext)))))) D [some (.ref a), some (.ref nl), some (.ref bl), some (.ref tl), some (.int c), v5, v6, v7, v8, v9, v10, v11, v12] H := by
  refine seq_ fun N1 h1 => ?_
  try simp only [tSeq, tIfS, tNext, tRet, tRetN, tDrop, tAsg, tC, cVar, tOp, tCB, tCons, tNil, tTup, tLst, tIf, tAnd, tOr, tNot, cTest, cTru, oTru, cAnd, cOr, cNot, cUn, cChain, gName, cTupG, gCons, gNil, gSub, oLt, oLe, oGt, oGe, oIs, oIsNot, oSub, oMul, oFdiv, oMod, oPow, cPar, cPar3, cAug, tDNewK, cCall, cAttr, frzE, List.mem_singleton, List.lookup_cons_self, List.getElem?_cons_zero, List.getElem?_cons_succ, List.set_cons_zero, List.set_cons_succ, Option.some.injEq, reduceCtorEq, if_true, if_false, Bool.true_eq_false, Bool.false_eq_true, decide_eq_true_eq, ite_true, ite_false, ↓reduceIte, List.length_cons, List.length_nil, true_and, and_true, exists_eq_left', exists_eq_left, List.cons.injEq]
  refine ⟨by decide, h1 _ _ (seq_ fun N2 h2 => ?_)⟩
  try simp only [tSeq, tIfS, tNext, tRet, tRetN, tDrop, tAsg, tC, cVar, tOp, tCB, tCons, tNil, tTup, tLst, tIf, tAnd, tOr, tNot, cTest, cTru, oTru, cAnd, cOr, cNot, cUn, cChain, gName, cTupG, gCons, gNil, gSub, oLt, oLe, oGt, oGe, oIs, oIsNot, oSub, oMul, oFdiv, oMod, oPow, cPar, cPar3, cAug, tDNewK, cCall, cAttr, frzE, List.mem_singleton, List.lookup_cons_self, List.getElem?_cons_zero, List.getElem?_cons_succ, List.set_cons_zero, List.set_cons_succ, Option.some.injEq, reduceCtorEq, if_true, if_false, Bool.true_eq_false, Bool.false_eq_true, decide_eq_true_eq, ite_true, ite_false, ↓reduceIte, List.length_cons, List.length_nil, true_and, and_true, exists_eq_left', exists_eq_left, List.cons.injEq]
  refine ⟨⟨by decide, by decide⟩, by decide, h2 _ _ (seq_ fun N3 h3 => ?_)⟩
  try simp only [tSeq, tIfS, tNext, tRet, tRetN, tDrop, tAsg, tC, cVar, tOp, tCB, tCons, tNil, tTup, tLst, tIf, tAnd, tOr, tNot, cTest, cTru, oTru, cAnd, cOr, cNot, cUn, cChain, gName, cTupG, gCons, gNil, gSub, oLt, oLe, oGt, oGe, oIs, oIsNot, oSub, oMul, oFdiv, oMod, oPow, cPar, cPar3, cAug, tDNewK, cCall, cAttr, frzE, List.mem_singleton, List.lookup_cons_self, List.getElem?_cons_zero, List.getElem?_cons_succ, List.set_cons_zero, List.set_cons_succ, Option.some.injEq, reduceCtorEq, if_true, if_false, Bool.true_eq_false, Bool.false_eq_true, decide_eq_true_eq, ite_true, ite_false, ↓reduceIte, List.length_cons, List.length_nil, true_and, and_true, exists_eq_left', exists_eq_left, List.cons.injEq]
  refine ⟨⟨by decide, by decide⟩, by decide, nm_ix T.nam h5 fun s hs => h3 _ _ (seq_ fun N4 h4 => ?_)⟩
  have fin : ∀ {p' d' rs' σ' H'}, Sg a nl bl tl σ' → Two K H' bl tl nl sl nms cs p' d' t rs' (m + 1) → N4 σ' H' := fun {p' d' rs' σ' H'} hσ T' => h4 _ _ (seq_ fun N5 h5' => both_right T' (by omega) hok h5 hσ fun σ2 H2 hσ2 e2 => h5' _ _ (both_same (T'.ex e2) (by omega) hσ2 fun H3 e3 => h _ _ _ _ _ hσ2 ((T'.ex e2).ex e3)))
  refine ifS_ fun A B hA hB => ?_
  simp only [tSeq, tIfS, tNext, tRet, tRetN, tDrop, tAsg, tC, cVar, tOp, tCB, tCons, tNil, tTup, tLst, tIf, tAnd, tOr, tNot, cTest, cTru, oTru, cAnd, cOr, cNot, cUn, cChain, gName, cTupG, gCons, gNil, gSub, oLt, oLe, oGt, oGe, oIs, oIsNot, oSub, oMul, oFdiv, oMod, oPow, cPar, cPar3, cAug, tDNewK, cCall, cAttr, frzE, List.mem_singleton, List.lookup_cons_self, List.getElem?_cons_zero, List.getElem?_cons_succ, List.set_cons_zero, List.set_cons_succ, Option.some.injEq, reduceCtorEq, if_true, if_false, Bool.true_eq_false, Bool.false_eq_true, decide_eq_true_eq, ite_true, ite_false, ↓reduceIte, List.length_cons, List.length_nil, true_and, and_true, exists_eq_left', exists_eq_left, List.cons.injEq]
  by_cases c1 : c / 2 % 8 < 4
  · simp only [c1, decide_true, if_true]
    exact hA _ (br_seen T hm (hok s hs) fun v10 rs' H' T' => fin ⟨_, _, _, _, _, _, _, _, _, rfl⟩ T')
  · simp only [c1, decide_false, Bool.false_eq_true, if_false]
    refine hB _ (ifS_ fun A B hA hB => ?_)
    simp only [tSeq, tIfS, tNext, tRet, tRetN, tDrop, tAsg, tC, cVar, tOp, tCB, tCons, tNil, tTup, tLst, tIf, tAnd, tOr, tNot, cTest, cTru, oTru, cAnd, cOr, cNot, cUn, cChain, gName, cTupG, gCons, gNil, gSub, oLt, oLe, oGt, oGe, oIs, oIsNot, oSub, oMul, oFdiv, oMod, oPow, cPar, cPar3, cAug, tDNewK, cCall, cAttr, frzE, List.mem_singleton, List.lookup_cons_self, List.getElem?_cons_zero, List.getElem?_cons_succ, List.set_cons_zero, List.set_cons_succ, Option.some.injEq, reduceCtorEq, if_true, if_false, Bool.true_eq_false, Bool.false_eq_true, decide_eq_true_eq, ite_true, ite_false, ↓reduceIte, List.length_cons, List.length_nil, true_and, and_true, exists_eq_left', exists_eq_left, List.cons.injEq]
    by_cases c2 : c / 2 % 8 < 7
    · simp only [c2, decide_true, if_true]
      refine hA _ (br_turn T hm fun v10 d' rs' H' T' => fin (p' := p) (d' := d') (rs' := rs') ⟨_, _, _, _, _, _, _, _, _, rfl⟩ ?_)
      exact { T' with g := fun w => (T'.g w).mono (Nat.le_succ _) }
    · simp only [c2, decide_false, Bool.false_eq_true, if_false]
      exact hB _ (br_copy T hm (hok s hs) b1 b2 b3 fun v11 v12 p' d' rs' H' T' => fin ⟨_, _, _, _, _, _, _, _, _, rfl⟩ T')
end
end
end WR.L

set_option Elab.async false
set_option linter.all false
set_option maxRecDepth 100000
set_option maxHeartbeats 1000000
namespace WR.L
open PySem PySem.Spec PyProof.Rows L2
section
variable {K : PySem.W.Frag} {n : Nat} {H H' : Hp} {Q : VK} {E : XK}
section
variable {a bl tl nl sl : Addr} {nms : List Str} {cs : List V} {p d t : Bool → Addr} {rs : Bool → Rws} {m : Nat} {D : Ends} {W : WX} {σ : L2.St}
/-- not equal to other things -/
theorem law_things (T : Two K H bl tl nl sl nms cs p d t rs m) (hm : m ≤ 63) (hσ : Sg a nl bl tl σ) (h : ∀ σ' H', Sg a nl bl tl σ' → Ex H H' → D.nx σ' H') :
    orL (cFor (cIter K (frzE (tLst (tCons (tC .non) (tCons (tC (.int 0)) (tCons tDNewK (tCons (mC (gg K (SP K (n+6))) "told" 0 0 [] (tOp (oIx K) (cVar 2) (tC (.int 0))) tNil tNil W) (tCons (tCB (bStrG (gg K (SP K (n+6)))) (tCons (tOp (oIx K) (cVar 2) (tC (.int 0))) tNil)) tNil)))))))) (gName 5)
  (tIfS (tOr (cTest (tOp (oEqG (gg K (SP K (n+6)))) (tOp (oIx K) (cVar 2) (tC (.int 0))) (cVar 5))) (tNot (cTest (tOp (oNeG (gg K (SP K (n+6)))) (tOp (oIx K) (cVar 2) (tC (.int 0))) (cVar 5)))))
  (tRet (tC (.bl false)))
  tNext)) D σ H := by
  obtain ⟨v4, v5, v6, v7, v8, v9, v10, v11, v12, rfl⟩ := hσ
  refine .inl ?_
  have g0 := T.up_g false
  simp only [cFor, cIter, frzE, tSeq, tIfS, tNext, tRet, tRetN, tDrop, tAsg, tC, cVar, tOp, tCB, tCons, tNil, tTup, tLst, tIf, tAnd, tOr, tNot, cTest, cTru, oTru, cAnd, cOr, cNot, cUn, cChain, gName, cTupG, gCons, gNil, gSub, oLt, oLe, oGt, oGe, oIs, oIsNot, oSub, oMul, oFdiv, oMod, oPow, cPar, cPar3, cAug, tDNewK, cCall, cAttr, frzE, List.mem_singleton, List.lookup_cons_self, List.getElem?_cons_zero, List.getElem?_cons_succ, List.set_cons_zero, List.set_cons_succ, Option.some.injEq, reduceCtorEq, if_true, if_false, Bool.true_eq_false, Bool.false_eq_true, decide_eq_true_eq, ite_true, ite_false, ↓reduceIte, List.length_cons, List.length_nil, true_and, and_true, exists_eq_left', exists_eq_left, List.cons.injEq]
  intro z hz
  have x1 : Ex H (upd H z (.dK [])) := Ex.refl.new hz
  have z1 : (upd H z (.dK [])) z = some (.dK []) := upd_same
  generalize upd H z (.dK []) = H1 at x1 z1 ⊢
  have T1 := T.ex x1
  obtain ⟨⟨dx, hp⟩, _⟩ := id (T1.W false)
  refine mC_own (c_told_0 K _) ?_ fun P P' hh q => mono_ixC hh q
  simp only [tOp, tC, cVar, List.getElem?_cons_succ, List.getElem?_cons_zero]
  rw [ix_lst (look_of_lst T1.both) (v := .ref (p false)) rfl]
  refine ⟨_, dx, _, rfl, hp, lk1 (by decide +kernel), ?_⟩
  try simp only [tSeq, tIfS, tNext, tRet, tRetN, tDrop, tAsg, tC, cVar, tOp, tCB, tCons, tNil, tTup, tLst, tIf, tAnd, tOr, tNot, cTest, cTru, oTru, cAnd, cOr, cNot, cUn, cChain, gName, cTupG, gCons, gNil, gSub, oLt, oLe, oGt, oGe, oIs, oIsNot, oSub, oMul, oFdiv, oMod, oPow, cPar, cPar3, cAug, tDNewK, cCall, cAttr, frzE, List.mem_singleton, List.lookup_cons_self, List.getElem?_cons_zero, List.getElem?_cons_succ, List.set_cons_zero, List.set_cons_succ, Option.some.injEq, reduceCtorEq, if_true, if_false, Bool.true_eq_false, Bool.false_eq_true, decide_eq_true_eq, ite_true, ite_false, ↓reduceIte, List.length_cons, List.length_nil, true_and, and_true, exists_eq_left', exists_eq_left, List.cons.injEq]
  refine s_told (T1.W false) (by omega) g0.2.1 fun ts q H2 ht e2 hq R2 => ?_
  have T2 := T1.ex e2
  try simp only [tOp, tC, cVar, List.getElem?_cons_succ, List.getElem?_cons_zero]
  rw [ix_lst (look_of_lst T2.both) (v := .ref (p false)) rfl]
  refine str_own (T2.W false) (T2.g false) hm fun us H3 hu e3 => ?_
  have T3 := T2.ex e3
  obtain ⟨kq, eq, _⟩ := R2.ex e3
  generalize Txt.join "; " (us.map rowT) = txt
  refine ⟨by simp only [sizeLine_eq]; omega, fun l hl => ?_⟩
  have x4 : Ex H3 (upd H3 l (.lst [.non, .int 0, .ref z, .ref q, .str txt])) := Ex.refl.new hl
  have l4 : (upd H3 l (.lst [.non, .int 0, .ref z, .ref q, .str txt])) l = some (.lst [.non, .int 0, .ref z, .ref q, .str txt]) := upd_same
  simp only [upd_same, look_of_lst upd_same]
  generalize upd H3 l (.lst [.non, .int 0, .ref z, .ref q, .str txt]) = H4 at x4 l4 ⊢
  have T4 := T3.ex x4
  have x04 : Ex H H4 := ((x1.trans e2).trans e3).trans x4
  have z4 : H4 z = some (.dK []) := x4 _ _ (e3 _ _ (e2 _ _ z1))
  have q4 : H4 q = some (.dK kq) := x4 _ _ eq
  have key : ∀ (j : Nat) x, ([.non, .int 0, .ref z, .ref q, .str txt] : List V)[j]? = some x → ∀ H', Ex H4 H' → (tyN K H' x).isSome = true := by
    intro j x hj H' e'
    match j, hj with
    | 0, hj => cases hj; rfl
    | 1, hj => cases hj; rfl
    | 2, hj => cases hj; rw [ty_dK (look_of_dK (e' _ _ z4))]; rfl
    | 3, hj => cases hj; rw [ty_dK (look_of_dK (e' _ _ q4))]; rfl
    | 4, hj => cases hj; rfl
    | j + 5, hj => simp at hj
  refine lp_inv (n := 5) (fun j σ H' => Sg a nl bl tl σ ∧ Ex H4 H') ?_ ?_ ⟨⟨_, _, _, _, _, _, _, _, _, rfl⟩, Ex.refl⟩
  · rintro σ H' ⟨hs, e⟩
    exact ⟨itl_stop (e _ _ l4) (by simp), h _ _ hs (x04.trans e)⟩
  · rintro j σ H5 hj ⟨⟨v4, v5, v6, v7, v8, v9, v10, v11, v12, rfl⟩, e5⟩ R hR
    refine ⟨itl_go (e5 _ _ l4) (by simpa using hj), ?_⟩
    intro x H6 hy
    obtain ⟨rfl, hx⟩ := itl_yld (e5 _ _ l4) hy
    have hty := key j x hx _ e5
    have T6 := T4.ex e5
    refine ifS_ fun A B hA hB => ?_
    simp only [tOr, tNot, cTest, tOp, tC, cVar, gName, List.getElem?_cons_succ, List.getElem?_cons_zero, List.set_cons_zero, List.set_cons_succ]
    rw [ix_lst (look_of_lst T6.both) (v := .ref (p false)) rfl]
    refine eq_own_o (T6.W false) hty ?_
    simp only [tSeq, tIfS, tNext, tRet, tRetN, tDrop, tAsg, tC, cVar, tOp, tCB, tCons, tNil, tTup, tLst, tIf, tAnd, tOr, tNot, cTest, cTru, oTru, cAnd, cOr, cNot, cUn, cChain, gName, cTupG, gCons, gNil, gSub, oLt, oLe, oGt, oGe, oIs, oIsNot, oSub, oMul, oFdiv, oMod, oPow, cPar, cPar3, cAug, tDNewK, cCall, cAttr, frzE, List.mem_singleton, List.lookup_cons_self, List.getElem?_cons_zero, List.getElem?_cons_succ, List.set_cons_zero, List.set_cons_succ, Option.some.injEq, reduceCtorEq, if_true, if_false, Bool.true_eq_false, Bool.false_eq_true, decide_eq_true_eq, ite_true, ite_false, ↓reduceIte, List.length_cons, List.length_nil, true_and, and_true, exists_eq_left', exists_eq_left, List.cons.injEq]
    rw [ix_lst (look_of_lst T6.both) (v := .ref (p false)) rfl]
    refine ne_own_o (T6.W false) hty ?_
    simp only [Bool.not_true, tSeq, tIfS, tNext, tRet, tRetN, tDrop, tAsg, tC, cVar, tOp, tCB, tCons, tNil, tTup, tLst, tIf, tAnd, tOr, tNot, cTest, cTru, oTru, cAnd, cOr, cNot, cUn, cChain, gName, cTupG, gCons, gNil, gSub, oLt, oLe, oGt, oGe, oIs, oIsNot, oSub, oMul, oFdiv, oMod, oPow, cPar, cPar3, cAug, tDNewK, cCall, cAttr, frzE, List.mem_singleton, List.lookup_cons_self, List.getElem?_cons_zero, List.getElem?_cons_succ, List.set_cons_zero, List.set_cons_succ, Option.some.injEq, reduceCtorEq, if_true, if_false, Bool.true_eq_false, Bool.false_eq_true, decide_eq_true_eq, ite_true, ite_false, ↓reduceIte, List.length_cons, List.length_nil, true_and, and_true, exists_eq_left', exists_eq_left, List.cons.injEq]
    exact hB _ (hR _ _ ⟨⟨_, _, _, _, _, _, _, _, _, rfl⟩, e5⟩)
def turnsR : Nat → Rws → Rws
  | 0, r => r
  | k + 1, r => turnR (turnsR k r)
/-- five turns -/
theorem law_turns (T : Two K H bl tl nl sl nms cs p d t rs m) (hm : m ≤ 62) (hσ : Sg a nl bl tl σ) (h : ∀ σ' d' rs' H', Sg a nl bl tl σ' → rs' false = [] → Two K H' bl tl nl sl nms cs p d' t rs' m → D.nx σ' H') :
    orL (cFor (cRng1 (tCons (tC (.int 5)) tNil)) (gName 6)
  (tIfS (tNot (cTru K (cCall ((SP K (n+6)) "_law_alike") 2 0 (fun vs _ => vs) (tCons (mC (gg K (SP K (n+6))) "turn" 0 0 [] (tOp (oIx K) (cVar 2) (tC (.int 0))) tNil tNil W) (tCons (cCall ((SP K (n+6)) "_law_turned") 1 0 (fun vs _ => vs) (tCons (tOp (oIx K) (cVar 3) (tC (.int 0))) tNil) tNil W) tNil)) tNil W)))
  (tRet (tC (.bl false)))
  tNext)) D σ H := by
  refine .inl ?_
  simp only [cFor, cRng1, tSeq, tIfS, tNext, tRet, tRetN, tDrop, tAsg, tC, cVar, tOp, tCB, tCons, tNil, tTup, tLst, tIf, tAnd, tOr, tNot, cTest, cTru, oTru, cAnd, cOr, cNot, cUn, cChain, gName, cTupG, gCons, gNil, gSub, oLt, oLe, oGt, oGe, oIs, oIsNot, oSub, oMul, oFdiv, oMod, oPow, cPar, cPar3, cAug, tDNewK, cCall, cAttr, frzE, List.mem_singleton, List.lookup_cons_self, List.getElem?_cons_zero, List.getElem?_cons_succ, List.set_cons_zero, List.set_cons_succ, Option.some.injEq, reduceCtorEq, if_true, if_false, Bool.true_eq_false, Bool.false_eq_true, decide_eq_true_eq, ite_true, ite_false, ↓reduceIte, List.length_cons, List.length_nil, true_and, and_true, exists_eq_left', exists_eq_left, List.cons.injEq]
  refine ⟨by decide, ?_⟩
  refine lp_inv (n := 5) (fun j σ H' => Sg a nl bl tl σ ∧ ∃ d' rs', rs' false = turnsR j (rs false) ∧ Two K H' bl tl nl sl nms cs p d' t rs' m) ?_ ?_ ⟨hσ, d, rs, rfl, T⟩
  · rintro σ H' ⟨hs, d', rs', e, T'⟩
    refine ⟨Nat.le_refl _, h _ _ _ _ hs ?_ T'⟩
    rw [e]
    exact turns_nil fun r hr => ((T.g false).2.2 r hr).2.2.2.2
  · rintro j σ H0 hj ⟨⟨v4, v5, v6, v7, v8, v9, v10, v11, v12, rfl⟩, d1, rs1, ers, T1⟩ R hR
    refine ⟨hj, ?_⟩
    rintro x H2 ⟨rfl, rfl⟩
    refine ifS_ fun A B hA hB => ?_
    simp only [tNot, cTru, cCall, tCons]
    refine mC_own (c_turn_0 K _) ?_ fun P P' hh q => mono_ixC hh q
    simp only [tOp, tC, cVar, gName, List.getElem?_cons_succ, List.getElem?_cons_zero, List.set_cons_zero, List.set_cons_succ]
    rw [ix_lst (look_of_lst T1.both) (v := .ref (p false)) rfl]
    have Ww := T1.W false
    obtain ⟨⟨dx, hp⟩, kd, ed, _⟩ := id Ww
    obtain ⟨l1, nd, ps⟩ := T1.up_g false
    refine ⟨_, dx, _, rfl, hp, lk1 (by decide +kernel), ?_⟩
    try simp only [tSeq, tIfS, tNext, tRet, tRetN, tDrop, tAsg, tC, cVar, tOp, tCB, tCons, tNil, tTup, tLst, tIf, tAnd, tOr, tNot, cTest, cTru, oTru, cAnd, cOr, cNot, cUn, cChain, gName, cTupG, gCons, gNil, gSub, oLt, oLe, oGt, oGe, oIs, oIsNot, oSub, oMul, oFdiv, oMod, oPow, cPar, cPar3, cAug, tDNewK, cCall, cAttr, frzE, List.mem_singleton, List.lookup_cons_self, List.getElem?_cons_zero, List.getElem?_cons_succ, List.set_cons_zero, List.set_cons_succ, Option.some.injEq, reduceCtorEq, if_true, if_false, Bool.true_eq_false, Bool.false_eq_true, decide_eq_true_eq, ite_true, ite_false, ↓reduceIte, List.length_cons, List.length_nil, true_and, and_true, exists_eq_left', exists_eq_left, List.cons.injEq]
    refine s_turn Ww (by omega) nd fun ts l d' H3 ht hl1 W1 e1 hl hd' => ?_
    have nla : ∀ {b xs}, H2 b = some (.lst xs) → H3 b = some (.lst xs) := fun eb => e1 _ _ (fun z => by rw [z, hp] at eb; cases eb) (fun z => by rw [z, ed] at eb; cases eb) eb
    have t1 := nla T1.tabs
    have R1 : RAt H3 (t false) (rs1 false) := rat_frq (T1.R _) e1 hp ed (T1.dt _ _).symm
    try simp only [tOp, tC, cVar, tNil, gName, List.getElem?_cons_succ, List.getElem?_cons_zero, List.set_cons_zero, List.set_cons_succ]
    rw [ix_lst (look_of_lst t1) (v := .ref (t false)) rfl]
    refine s_law_turned R1 (by omega) nd ps fun us g H4 hu hg2 R2 e2 hg => ?_
    obtain rfl := ht.uniq hu
    have hl2 : H4 l = some (.lst ((goneR ts).map V.str)) := e2 _ _ (fun z => by obtain ⟨_, ee, _⟩ := R1; rw [← z, hl1] at ee; cases ee) hl1
    try refine ⟨trivial, trivial, ?_⟩
    refine s_alike_strs hl2 hg2 ?_ fun H5 e5 => ?_
    · have := goneR_len ts
      have := told_len ht
      omega
    simp only [Bool.not_true, tSeq, tIfS, tNext, tRet, tRetN, tDrop, tAsg, tC, cVar, tOp, tCB, tCons, tNil, tTup, tLst, tIf, tAnd, tOr, tNot, cTest, cTru, oTru, cAnd, cOr, cNot, cUn, cChain, gName, cTupG, gCons, gNil, gSub, oLt, oLe, oGt, oGe, oIs, oIsNot, oSub, oMul, oFdiv, oMod, oPow, cPar, cPar3, cAug, tDNewK, cCall, cAttr, frzE, List.mem_singleton, List.lookup_cons_self, List.getElem?_cons_zero, List.getElem?_cons_succ, List.set_cons_zero, List.set_cons_succ, Option.some.injEq, reduceCtorEq, if_true, if_false, Bool.true_eq_false, Bool.false_eq_true, decide_eq_true_eq, ite_true, ite_false, ↓reduceIte, List.length_cons, List.length_nil, true_and, and_true, exists_eq_left', exists_eq_left, List.cons.injEq]
    have T2 := (T1.turned (w := false) (good_turn (T1.g false)) W1 e1 hd' R2 e2).ex e5
    refine hB _ (hR _ _ ⟨⟨_, _, _, _, _, _, _, _, _, rfl⟩, _, _, ?_, T2⟩)
    show turnR (rs1 false) = turnR (turnsR j (rs false))
    rw [ers]
theorem eqT_nil {ts us : Rws} (h : Told [] ts) (k : Told [] us) : eqT ts us = true := by
  have h1 := told_len h
  have h2 := told_len k
  have e1 : ts = [] := List.length_eq_zero_iff.mp h1
  have e2 : us = [] := List.length_eq_zero_iff.mp h2
  subst e1; subst e2; rfl
end
theorem s_law {a : Addr} {ns : List Int} (hl : look K H a = some (.lst (ns.map V.int))) (hH : H a ≠ none) (h : ∀ H', Q (.bl true) H') : SP K (n+7) "law" [.ref a] H Q E := by
  refine o_law ?_
  unfold r_law
  refine seq_ fun N1 h1 => ?_
  simp only [tAsg, cCall, tSeq, tIfS, tNext, tRet, tRetN, tDrop, tAsg, tC, cVar, tOp, tCB, tCons, tNil, tTup, tLst, tIf, tAnd, tOr, tNot, cTest, cTru, oTru, cAnd, cOr, cNot, cUn, cChain, gName, cTupG, gCons, gNil, gSub, oLt, oLe, oGt, oGe, oIs, oIsNot, oSub, oMul, oFdiv, oMod, oPow, cPar, cPar3, cAug, tDNewK, cCall, cAttr, frzE, List.mem_singleton, List.lookup_cons_self, List.getElem?_cons_zero, List.getElem?_cons_succ, List.set_cons_zero, List.set_cons_succ, Option.some.injEq, reduceCtorEq, if_true, if_false, Bool.true_eq_false, Bool.false_eq_true, decide_eq_true_eq, ite_true, ite_false, ↓reduceIte, List.length_cons, List.length_nil, true_and, and_true, exists_eq_left', exists_eq_left, List.cons.injEq]
  refine s_cell (k := 0) hl ?_
  refine s_law_names fun nms nl H1 h5 hok e1 hn hnH => h1 _ _ (seq_ fun N2 h2 => ?_)
  simp only [tAsg, tLst, tCons]
  refine mk_wrongs fun p0 d0 H2 e2 fp0 fd0 n0 W0 => ?_
  refine mk_wrongs fun p1 d1 H3 e3 fp1 fd1 n1 W1 => ?_
  simp only [tNil]
  refine ⟨by simp only [sizeLine_eq, List.length_cons, List.length_nil]; omega, fun bl hbl => h2 _ _ (seq_ fun N3 h3 => ?_)⟩
  have W0a := W0.ex e3
  have e4 : Ex H3 (upd H3 bl (.lst [.ref p0, .ref p1])) := Ex.refl.new hbl
  have b4 : (upd H3 bl (.lst [.ref p0, .ref p1])) bl = some (.lst [.ref p0, .ref p1]) := upd_same
  generalize upd H3 bl (.lst [.ref p0, .ref p1]) = H4 at e4 b4 ⊢
  simp only [tAsg, tLst, tCons, tDNewK]
  intro t0 ht0
  have e5 : Ex H4 (upd H4 t0 (.dK [])) := Ex.refl.new ht0
  have k0 : (upd H4 t0 (.dK [])) t0 = some (.dK []) := upd_same
  generalize upd H4 t0 (.dK []) = H5 at e5 k0 ⊢
  intro t1 ht1
  have e6 : Ex H5 (upd H5 t1 (.dK [])) := Ex.refl.new ht1
  have k1 : (upd H5 t1 (.dK [])) t1 = some (.dK []) := upd_same
  generalize upd H5 t1 (.dK []) = H6 at e6 k1 ⊢
  simp only [tNil]
  refine ⟨by simp only [sizeLine_eq, List.length_cons, List.length_nil]; omega, fun tl htl => h3 _ _ (seq_ fun N4 h4 => .inl ?_)⟩
  have e7 : Ex H6 (upd H6 tl (.lst [.ref t0, .ref t1])) := Ex.refl.new htl
  have b7 : (upd H6 tl (.lst [.ref t0, .ref t1])) tl = some (.lst [.ref t0, .ref t1]) := upd_same
  generalize upd H6 tl (.lst [.ref t0, .ref t1]) = H7 at e7 b7 ⊢
  have e46 := e5.trans e6
  have e47 := e46.trans e7
  have e37 := e4.trans e47
  have e17 := (e2.trans e3).trans e37
  have e07 := e1.trans e17
  simp only [cFor, cIter, frzE, tSl, cPart, oSl, tSeq, tIfS, tNext, tRet, tRetN, tDrop, tAsg, tC, cVar, tOp, tCB, tCons, tNil, tTup, tLst, tIf, tAnd, tOr, tNot, cTest, cTru, oTru, cAnd, cOr, cNot, cUn, cChain, gName, cTupG, gCons, gNil, gSub, oLt, oLe, oGt, oGe, oIs, oIsNot, oSub, oMul, oFdiv, oMod, oPow, cPar, cPar3, cAug, tDNewK, cCall, cAttr, frzE, List.mem_singleton, List.lookup_cons_self, List.getElem?_cons_zero, List.getElem?_cons_succ, List.set_cons_zero, List.set_cons_succ, Option.some.injEq, reduceCtorEq, if_true, if_false, Bool.true_eq_false, Bool.false_eq_true, decide_eq_true_eq, ite_true, ite_false, ↓reduceIte, List.length_cons, List.length_nil, true_and, and_true, exists_eq_left', exists_eq_left, List.cons.injEq]
  rw [look_ex e07 hH hl]
  intro sl hsl
  have e8 : Ex H7 (upd H7 sl (.lst (cutV (ns.map V.int) (some 1) (some 62)))) := Ex.refl.new hsl
  have b8 : (upd H7 sl (.lst (cutV (ns.map V.int) (some 1) (some 62)))) sl = some (.lst (cutV (ns.map V.int) (some 1) (some 62))) := upd_same
  simp only [upd_same, look_of_lst upd_same]
  have ci : ∀ v ∈ cutV (ns.map V.int) (some 1) (some 62), ∃ c, v = V.int c := fun v hv => by
    have := List.mem_of_mem_drop (List.mem_of_mem_take hv)
    obtain ⟨c, _, rfl⟩ := List.mem_map.mp this
    exact ⟨c, rfl⟩
  have cl : (cutV (ns.map V.int) (some 1) (some 62)).length ≤ 61 := by
    unfold cutV
    rw [List.length_take]
    have a1 : HT.sIx (ns.map V.int).length 0 (some 1) = min 1 (ns.map V.int).length := HT.sIx_nat _ _ 1
    have a2 : HT.sIx (ns.map V.int).length (ns.map V.int).length (some 62) = min 62 (ns.map V.int).length := HT.sIx_nat _ _ 62
    rw [a1, a2]
    omega
  generalize cutV (ns.map V.int) (some 1) (some 62) = cs at e8 b8 ci cl ⊢
  generalize upd H7 sl (.lst cs) = H8 at e8 b8 ⊢
  have g0 : ∀ w : Bool, Good 0 ((fun _ => []) w : Rws) := fun _ => good_nil
  have e38 := e37.trans e8
  have e48 := e47.trans e8
  have nb : ∀ {x y : Addr} {o : HO} {A B : Hp}, A x = some o → Ex A B → B y = none → x ≠ y := fun ex eb ey => ne_of_none (eb _ _ ex) ey
  obtain ⟨⟨dx0, hp0⟩, kd0, ed0, r0⟩ := id W0a
  obtain ⟨⟨dx1, hp1⟩, kd1, ed1, r1⟩ := id W1
  have hd0 : H2 d0 = some (.dK kd0) := by obtain ⟨_, k, z, _⟩ := W0; have := e3 _ _ z; rw [ed0] at this; cases this; exact z
  have hp0' : H2 p0 = some (.ins (He.ga K "Wrongs") dx0 [("wrong_counts", .ref d0)]) := by obtain ⟨⟨_, z⟩, _⟩ := W0; have := e3 _ _ z; rw [hp0] at this; cases this; exact z
  have T : Two K H8 bl tl nl sl nms cs (fun w => if w then p1 else p0) (fun w => if w then d1 else d0) (fun w => if w then t1 else t0) (fun _ => []) 0 := by
    refine ⟨e48 _ _ b4, e8 _ _ b7, (e17.trans e8) _ _ hn, b8, fun w => ?_, fun w => ?_, g0, ?_, ?_, ?_, ?_⟩
    · cases w
      · exact W0a.ex e38
      · exact W1.ex e38
    · cases w
      · exact ⟨[], e8 _ _ (e7 _ _ (e6 _ _ k0)), trivial⟩
      · exact ⟨[], e8 _ _ (e7 _ _ k1), trivial⟩
    · exact ne_of_none hp0' fp1
    · exact ne_of_none hd0 fd1
    · exact ne_of_none k0 ht1
    · intro v w
      have a00 := ne_of_none (e4 _ _ ed0) ht0
      have a01 := ne_of_none (e5 _ _ (e4 _ _ ed0)) ht1
      have a10 := ne_of_none (e4 _ _ ed1) ht0
      have a11 := ne_of_none (e5 _ _ (e4 _ _ ed1)) ht1
      cases v <;> cases w <;> assumption
  have b1 : tl ≠ bl := (ne_of_none (e46 _ _ b4) htl).symm
  have b2 : nl ≠ bl := ne_of_none ((e2.trans e3) _ _ hn) hbl
  have b3 : sl ≠ bl := (ne_of_none (e47 _ _ b4) hsl).symm
  refine lp_inv (n := cs.length) (fun j σ H' => Sg a nl bl tl σ ∧ ∃ p d rs, Two K H' bl tl nl sl nms cs p d (fun w => if w then t1 else t0) rs j) ?_ ?_ ⟨⟨_, _, _, _, _, _, _, _, _, rfl⟩, _, _, _, T⟩
  · rintro σ H9 ⟨hσ, p, d, rs, T9⟩
    refine ⟨itl_stop T9.cel (Nat.le_refl _), h4 _ _ (seq_ fun N5 h5' => law_things T9 (by omega) hσ fun σ2 H10 hσ2 e10 => h5' _ _ (seq_ fun N6 h6 => law_turns (T9.ex e10) (by omega) hσ2 fun σ3 d3 rs3 H11 hσ3 hz T11 => h6 _ _ ?_))⟩
    obtain ⟨v4, v5, v6, v7, v8, v9, v10, v11, v12, rfl⟩ := hσ3
    simp only [tRet, cAnd, tOp, tC, cVar, List.getElem?_cons_succ, List.getElem?_cons_zero]
    rw [ix_lst (look_of_lst T11.both) (v := .ref (p false)) rfl]
    refine mk_wrongs fun pe de H12 e12 fpe fde ne We => ?_
    have T12 := T11.ex e12
    have g12 := T12.up_g false
    refine eq_own (T12.W false) We (by omega) (by simp) g12.2.1 (by simp) fun ts us H13 ht hu e13 => ?_
    rw [hz] at ht
    rw [eqT_nil ht hu]
    have T13 := T12.ex e13
    simp only [oTru, tCB, tCons, tOp, tC, tNil, cVar, List.getElem?_cons_succ, List.getElem?_cons_zero]
    rw [ix_lst (look_of_lst T13.both) (v := .ref (p false)) rfl]
    refine len_own (T13.W false) (by omega) ?_
    refine eq_scal rfl rfl rfl ?_
    rw [hz]
    simp only [oTru, cCall, tCons, tOp, tC, tNil, cVar, List.getElem?_cons_succ, List.getElem?_cons_zero, List.length_nil]
    rw [show decide ((V.int ((0 : Nat) : Int)) = V.int 0) = true from rfl]
    dsimp only
    rw [ix_lst (look_of_lst T13.both) (v := .ref (p true)) rfl, ix_lst (look_of_lst T13.tabs) (v := .ref t1) rfl]
    refine ⟨rfl, (by first | rfl | trivial), ?_⟩
    exact s_law_right (T13.W true) (T13.R true) (T13.g true) (by omega) T13.nam hok h5 fun H14 e14 => h H14
  · rintro j σ H9 hj ⟨⟨v4, v5, v6, v7, v8, v9, v10, v11, v12, rfl⟩, p, d, rs, T9⟩ R hR
    refine ⟨itl_go T9.cel hj, ?_⟩
    intro x H10 hy
    obtain ⟨rfl, hx⟩ := itl_yld T9.cel hy
    obtain ⟨c, rfl⟩ := ci _ (List.mem_of_getElem? hx)
    simp only [gName, List.set_cons_zero, List.set_cons_succ]
    exact law_cell T9 (by omega) hok h5 b1 b2 b3 fun p' d' rs' σ' H' hσ' T' => hR _ _ ⟨hσ', p', d', rs', T'⟩
end
theorem law_ok : LawY y 40 12 := by
  intro K _ H a ns hl hO ha
  obtain ⟨o, ha⟩ := ha
  refine s_law (n := 5) (ns := ns) ?_ (by rw [ha]; simp) fun H' => rfl
  unfold look; rw [ha]
end WR.L

set_option maxHeartbeats 0
namespace WR.L
open PySem PySem.Spec PyProof.Rows L2
theorem yok : SyOk y where
  sc := by decide +kernel
  cps := List.forall_mem_cons.mpr ⟨⟨d_is_name, rfl, rfl, kb1⟩, List.forall_mem_cons.mpr ⟨⟨d_need_name, rfl, rfl, kb2⟩, List.forall_mem_cons.mpr ⟨⟨d__law_cell_at, rfl, rfl, kb14⟩, List.forall_mem_cons.mpr ⟨⟨d__law_row, rfl, rfl, kb15⟩, List.forall_mem_cons.mpr ⟨⟨d__law_alike, rfl, rfl, kb16⟩, List.forall_mem_cons.mpr ⟨⟨d__law_names, rfl, rfl, kb17⟩, List.forall_mem_cons.mpr ⟨⟨d__law_seen, rfl, rfl, kb18⟩, List.forall_mem_cons.mpr ⟨⟨d__law_turned, rfl, rfl, kb19⟩, List.forall_mem_cons.mpr ⟨⟨d__law_told, rfl, rfl, kb20⟩, List.forall_mem_cons.mpr ⟨⟨d__law_right, rfl, rfl, kb21⟩, List.forall_mem_cons.mpr ⟨⟨d_law, rfl, rfl, kb22⟩, fun c h => nomatch h⟩⟩⟩⟩⟩⟩⟩⟩⟩⟩⟩
  cms := List.forall_mem_cons.mpr ⟨⟨by decide +kernel, d_Wrongs___len__, rfl, rfl, kb4⟩, List.forall_mem_cons.mpr ⟨⟨by decide +kernel, d_Wrongs___eq__, rfl, rfl, kb5⟩, List.forall_mem_cons.mpr ⟨⟨by decide +kernel, d_Wrongs___str__, rfl, rfl, kb6⟩, List.forall_mem_cons.mpr ⟨⟨by decide +kernel, d_Wrongs___repr__, rfl, rfl, kb7⟩, List.forall_mem_cons.mpr ⟨⟨by decide +kernel, d_Wrongs_seen, rfl, rfl, kb8⟩, List.forall_mem_cons.mpr ⟨⟨by decide +kernel, d_Wrongs_turn, rfl, rfl, kb9⟩, List.forall_mem_cons.mpr ⟨⟨by decide +kernel, d_Wrongs_passes, rfl, rfl, kb10⟩, List.forall_mem_cons.mpr ⟨⟨by decide +kernel, d_Wrongs_count_of, rfl, rfl, kb11⟩, List.forall_mem_cons.mpr ⟨⟨by decide +kernel, d_Wrongs_told, rfl, rfl, kb12⟩, List.forall_mem_cons.mpr ⟨⟨by decide +kernel, d_Wrongs_copied, rfl, rfl, kb13⟩, fun c h => nomatch h⟩⟩⟩⟩⟩⟩⟩⟩⟩⟩
  cks := List.forall_mem_cons.mpr ⟨⟨by decide +kernel, d_Wrongs___init__, rfl, rfl, kb3⟩, fun c h => nomatch h⟩
  ats := by decide +kernel
  nes := by decide +kernel
abbrev R : PySem.W.OpenRow := PySem.W.OpenLaw.row PySem.Challenge.rw_peersmeet_k24_wrongs_seen_and_forgotten
theorem run (w : World) : HandSHeadRun.RunEq R (PySem.W.view R.prog [20]) (hkY y) (obY y) 4000 ["LETTERS", "MOST_WRONGS", "NoName", "PeerError", "TURNS", "Wrongs", "_law_alike", "_law_cell_at", "_law_names", "_law_right", "_law_row", "_law_seen", "_law_told", "_law_turned", "is_name", "need_name"] w := by
  intro os
  kernel_rfl
end WR.L
open PySem PySem.W PySem.Calls PyProof.Rows
theorem PySem.Challenge.cw_peersmeet_k24_wrongs_seen_and_forgotten_holds : PySem.Challenge.rw_peersmeet_k24_wrongs_seen_and_forgotten.Holds := by
  w_on; o_law
  refine HandSHeadRun.head_any (r := OpenLaw.row PySem.Challenge.rw_peersmeet_k24_wrongs_seen_and_forgotten) (q := view (OpenLaw.row PySem.Challenge.rw_peersmeet_k24_wrongs_seen_and_forgotten).prog [20]) (H := WR.hkY WR.L.y) (ob := WR.obY WR.L.y) (M := 4000) (loose := ["LETTERS", "MOST_WRONGS", "NoName", "PeerError", "TURNS", "Wrongs", "_law_alike", "_law_cell_at", "_law_names", "_law_right", "_law_row", "_law_seen", "_law_told", "_law_turned", "is_name", "need_name"]) (d := HandSHeadRun.topDef (OpenLaw.row PySem.Challenge.rw_peersmeet_k24_wrongs_seen_and_forgotten).prog 20) (kwd := []) (WR.obY_eq WR.L.y)
    (by kernel_rfl) (fun s => by kernel_rfl) WR.L.run (by kernel_rfl) (by kernel_rfl) (by kernel_rfl) (by rfl) (by first | assumption | decide +kernel) (by decide +kernel) ⟨rfl, rfl, rfl, rfl, rfl, by decide +kernel⟩ ?hw ?hc
  case hw => w_witness2
  case hc => exact WR.walkY (l := PySem.Challenge.rw_peersmeet_k24_wrongs_seen_and_forgotten) WR.L.y 40 12 WR.L.d_law WR.L.yok (by decide +kernel) rfl rfl rfl rfl ⟨_, List.mem_of_getElem? (i := 10) rfl, rfl⟩ (fun _ _ _ _ _ _ us hl => match us, hl with | [_], _ => rfl) rfl (by kernel_rfl) (by kernel_rfl) ⟨rfl, by decide, by decide⟩ WR.L.law_ok

