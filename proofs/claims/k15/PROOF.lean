import PyProof.Rows.All
import Wide.All
import OpenK.AllK
import Wide.FinOn
import HandS.ForMost
import PyProof.StrBlock2
import HandS.Exc
import HandS.Wide
import HandS.Defaults
import HandS.IsInst
import HandS.TupAny
import HandS.WordsExc
import HandS.TupLe
import HandS.TupMul
import HandS.Ends
import HandS.HotCalls
import HandS.ExcInit
import HandS.ExcField
import HandS.TryMany
import HandS.Codes
import KE.KIsAll
import HandS.ExcIs
import HandS.Conv
import HandS.Sort
import HandS.Deep
import HandS.More
import HandS.Finally
import HandS.Strs
import HandS.Replace
import HandS.SortInts
import HandS.FStr
import HandS.DictComp
import HandS.DictEq
import KE.KEqDict
import KE.KCallOwn
import PyProof.InstNe
import PyProof.Rows.TmSorted
import PyProof.ReprRoads
import PyProof.CallFns
import KE.KDictList
import HandS.ListItems
import KE.SortData
import PyProof.EqKinds
import PyProof.MeetsIn
import HandS.Style
import KE.DataMinKey
import KE.SortKeyHeap
import HandS.SortKw
import KE.KUnpackStar
import KE.KDictZip
import KE.KItemsList
import KE.GoesEnum
import KE.GoesMore
import HandS.Flow
import HandS.Head0
import HandS.Head1
import HandS.Head2
import HandS.HeadEnd
import HandS.HeadHook1
import HandS.HeadHook2
import HandS.HeadHook3
import HandS.HeadHook4
import HandS.WordsDict
import PyProof.Rows.SortStr
import PySem.Challenge.RW_peersmeet_k15_pieces_by_their_marks
import KE.DatumOrd
set_option Elab.async false
set_option linter.all false
set_option maxRecDepth 100000
set_option maxHeartbeats 4000000
namespace WR
open PySem PySem.Spec PyProof.Rows L2

abbrev St := L2.St
/-! ## 1. the tracked view of an object -/
def absVs : List Value → Option (List V)
  | [] => some []
  | u :: us => match absV u, absVs us with
    | some v, some vs => some (v :: vs)
    | _, _ => none
theorem absV_rel {u : Value} {v : V} (h : absV u = some v) : RelV v u := by
  cases u <;> simp [absV] at h <;> subst h <;> first | rfl | exact ⟨_, rfl⟩
theorem absVs_rel : ∀ {us : List Value} {vs : List V}, absVs us = some vs → Vals vs us
  | [], vs, h => by cases h; exact .nil
  | u :: us, vs, h => by
    unfold absVs at h
    cases e1 : absV u with
    | none => rw [e1] at h; simp at h
    | some v =>
      cases e2 : absVs us with
      | none => rw [e1, e2] at h; simp at h
      | some w => rw [e1, e2] at h; cases h; exact .cons (absV_rel e1) (absVs_rel e2)

/-- a list or tuple of the written part -/
def kobj (K : PySem.W.Frag) (a : Addr) : Option HO :=
  match K.lookup a with
  | some o => match o.data with
    | .seq its _ => if its.size ≤ sizeLine then
        match absVs its.toList with
        | some vs => if (o.cls == .type "list") = true ∧ o.dict = none then some (.lst vs) else if (o.cls == .type "tuple") = true then some (.tup vs) else none
        | none => none
      else none
    | _ => none
  | none => none
/-- what is to be read at a -/
def look (K : PySem.W.Frag) (H : Hp) (a : Addr) : Option HO :=
  match H a with
  | some (.frz _ u) => some u
  | some o => some o
  | none => kobj K a

theorem kobj_lst {K : PySem.W.Frag} {H : Hp} {a : Addr} {xs : List V} (h : kobj K a = some (.lst xs)) : SqL K H a xs := by
  unfold kobj at h
  split at h
  · rename_i o ho
    split at h
    · rename_i its n hd
      split at h
      · rename_i hz
        split at h
        · rename_i vs hv
          split at h
          · rename_i hc
            cases h
            exact .inr ⟨o, its, n, ho, beq_iff_eq.mp hc.1, hc.2, hd, hz, absVs_rel hv⟩
          · split at h <;> cases h
        · cases h
      · cases h
    · cases h
  · cases h
theorem kobj_tup {K : PySem.W.Frag} {H : Hp} {a : Addr} {xs : List V} (h : kobj K a = some (.tup xs)) : SqT K H a xs := by
  unfold kobj at h
  split at h
  · rename_i o ho
    split at h
    · rename_i its n hd
      split at h
      · rename_i hz
        split at h
        · rename_i vs hv
          split at h
          · cases h
          · split at h
            · rename_i hc
              cases h
              exact .inr ⟨o, its, n, ho, beq_iff_eq.mp hc, hd, hz, absVs_rel hv⟩
            · cases h
        · cases h
      · cases h
    · cases h
  · cases h
theorem look_rd {K : PySem.W.Frag} {H : Hp} {a : Addr} {u : HO} (h : look K H a = some u) : Rd H a u ∨ (H a = none ∧ kobj K a = some u) := by
  unfold look at h
  split at h
  · rename_i o v e; cases h; exact .inl (.inr ⟨_, e⟩)
  · rename_i o hn e; cases h; exact .inl (.inl e)
  · rename_i e; exact .inr ⟨e, h⟩
theorem look_lst {K : PySem.W.Frag} {H : Hp} {a : Addr} {xs : List V} (h : look K H a = some (.lst xs)) : SqL K H a xs := by
  rcases look_rd h with r | ⟨_, r⟩
  · exact .inl r
  · exact kobj_lst r
theorem look_tup {K : PySem.W.Frag} {H : Hp} {a : Addr} {xs : List V} (h : look K H a = some (.tup xs)) : SqT K H a xs := by
  rcases look_rd h with r | ⟨_, r⟩
  · exact .inl r
  · exact kobj_tup r
theorem kobj_no {K : PySem.W.Frag} {a : Addr} {u : HO} (h : kobj K a = some u) : (∃ xs, u = .lst xs) ∨ ∃ xs, u = .tup xs := by
  unfold kobj at h
  split at h
  · split at h
    · split at h
      · split at h
        · split at h
          · cases h; exact .inl ⟨_, rfl⟩
          · split at h
            · cases h; exact .inr ⟨_, rfl⟩
            · cases h
        · cases h
      · cases h
    · cases h
  · cases h
theorem look_dK {K : PySem.W.Frag} {H : Hp} {a : Addr} {kvs : List (Key × V)} (h : look K H a = some (.dK kvs)) : Rd H a (.dK kvs) := by
  rcases look_rd h with r | ⟨_, r⟩
  · exact r
  · rcases kobj_no r with ⟨_, e⟩ | ⟨_, e⟩ <;> cases e
theorem look_of {K : PySem.W.Frag} {H : Hp} {a : Addr} {u : HO} (h : H a = some u) (hu : ∀ o w, u ≠ .frz o w) : look K H a = some u := by
  unfold look
  rw [h]
  cases u <;> first | rfl | exact absurd rfl (hu _ _)
theorem look_of_lst {K : PySem.W.Frag} {H : Hp} {a : Addr} {xs : List V} (h : H a = some (.lst xs)) : look K H a = some (.lst xs) := look_of h fun _ _ z => nomatch z
theorem look_of_tup {K : PySem.W.Frag} {H : Hp} {a : Addr} {xs : List V} (h : H a = some (.tup xs)) : look K H a = some (.tup xs) := look_of h fun _ _ z => nomatch z
theorem look_of_dK {K : PySem.W.Frag} {H : Hp} {a : Addr} {kvs : List (Key × V)} (h : H a = some (.dK kvs)) : look K H a = some (.dK kvs) := look_of h fun _ _ z => nomatch z
theorem look_ne {K : PySem.W.Frag} {H : Hp} {a b : Addr} {o : HO} (h : b ≠ a) : look K (upd H a o) b = look K H b := by
  unfold look; rw [upd_ne h]
theorem look_same {K : PySem.W.Frag} {H : Hp} {a : Addr} {o : HO} (ho : ∀ u w, o ≠ .frz u w) : look K (upd H a o) a = some o := look_of upd_same ho

/-! ## 2. weakenings -/
section
variable {X : Cx}
theorem PE_imp {e : Expr} {t t' : TE} (h : PE X e t) (k : ∀ σ H Q, t' σ H Q → t σ H Q) : PE X e t' := ⟨fun pins s σ H Q I q => h.run pins s σ H Q I (k σ H Q q)⟩
theorem PT_imp {e : Expr} {t t' : TT} (h : PT X e t) (k : ∀ σ H Q, t' σ H Q → t σ H Q) : PT X e t' := ⟨fun pins s σ H Q I q => h.run pins s σ H Q I (k σ H Q q)⟩
theorem PS_imp {e : Stmt} {t t' : TS} (h : PS X e t) (k : ∀ D σ H, t' D σ H → t D σ H) : PS X e t' := ⟨fun pins s σ H D I q => h.run pins s σ H D I (k D σ H q)⟩
theorem PSs_imp {e : List Stmt} {t t' : TS} (h : PSs X e t) (k : ∀ D σ H, t' D σ H → t D σ H) : PSs X e t' := ⟨fun pins s σ H D I q => h.run pins s σ H D I (k D σ H q)⟩
theorem OpR_imp {f : Value → Value → Sem Value} {r r' : R2} (h : OpR X f r) (k : ∀ x y H Q, r' x y H Q → r x y H Q) : OpR X f r' := fun pins s σ H x y v u Q I rx ry q => h pins s σ H x y v u Q I rx ry (k x y H Q q)
theorem CallR_imp {f : Value} {r r' : List V → Hp → VK → Prop} (h : CallR X f r) (k : ∀ xs H Q, r' xs H Q → r xs H Q) : CallR X f r' := fun pins s σ H xs us Q I rx q => h pins s σ H xs us Q I rx (k xs H Q q)
theorem MtR_imp {id : String} {r r' : V → List V → Hp → VK → Prop} (h : MtR X id r) (k : ∀ x xs H Q, r' x xs H Q → r x xs H Q) : MtR X id r' := fun pins s σ H x xs v us Q I rx rs q => h pins s σ H x xs v us Q I rx rs (k x xs H Q q)
end

/-! ## 3. operators by values -/
def oAdd (K : PySem.W.Frag) : R2 := fun x y H Q => match x, y with
  | .int i, .int j => Q (.int (i + j)) H
  | .str a, .str b => a.length + b.length ≤ sizeLine ∧ Q (.str (a ++ b)) H
  | .ref p, .ref q => match H p, H q with
    | some (.lst xs), some (.lst ys) => xs.length + ys.length ≤ sizeLine ∧ ∀ n, H n = none → Q (.ref n) (upd H n (.lst (xs ++ ys)))
    | some (.tup xs), some (.tup ys) => xs.length + ys.length ≤ sizeLine ∧ (xs = [] → Q (.ref q) H) ∧ (xs ≠ [] → ys = [] → Q (.ref p) H) ∧ (xs ≠ [] → ys ≠ [] → ∀ n, H n = none → Q (.ref n) (upd H n (.tup (xs ++ ys))))
    | _, _ => False
  | _, _ => False
def oSub : R2 := fun x y H Q => match x, y with
  | .int i, .int j => Q (.int (i - j)) H
  | _, _ => False
def oMul : R2 := fun x y H Q => match x, y with
  | .int i, .int j => CMulW i j ∧ Q (.int (i * j)) H
  | .str a, .int j => PySem.MulOk a j ∧ Q (.str (Txt.mul a j)) H
  | .ref p, .int k => match H p with
    | some (.lst xs) => -(2 ^ 63) ≤ k ∧ k < 2 ^ 63 ∧ xs.length * k.toNat ≤ sizeLine ∧ ∀ q, H q = none → Q (.ref q) (upd H q (.lst (List.replicate k.toNat xs).flatten))
    | some (.tup xs) => xs ≠ [] ∧ 2 ≤ k ∧ k ≤ 1000 ∧ xs.length ≤ 1000 ∧ ∀ q, H q = none → Q (.ref q) (upd H q (.tup (List.replicate k.toNat xs).flatten))
    | _ => False
  | _, _ => False
def oFdiv : R2 := fun x y H Q => match x, y with
  | .int i, .int j => CDivW i j ∧ Q (.int (i / j)) H
  | _, _ => False
def oMod : R2 := fun x y H Q => match x, y with
  | .int i, .int j => 0 < j ∧ Q (.int (i % j)) H
  | _, _ => False
def oPow : R2 := fun x y H Q => match x, y with
  | .int i, .int j => CPow i j ∧ Q (.int (i ^ j.toNat)) H
  | _, _ => False
def oShl : R2 := fun x y H Q => match x, y with
  | .int i, .int j => CPow i j ∧ Q (.int (i * 2 ^ j.toNat)) H
  | _, _ => False
def oLt : R2 := fun x y H Q => match x, y with
  | .int i, .int j => Q (.bl (decide (i < j))) H
  | .str a, .str b => Q (.bl (decide (a.cps.toList < b.cps.toList))) H
  | _, _ => False
def oLe : R2 := fun x y H Q => match x, y with
  | .int i, .int j => Q (.bl (decide (i ≤ j))) H
  | .str a, .str b => Q (.bl (!decide (b.cps.toList < a.cps.toList))) H
  | _, _ => False
def oGt : R2 := fun x y H Q => match x, y with
  | .int i, .int j => Q (.bl (decide (j < i))) H
  | .str a, .str b => Q (.bl (decide (b.cps.toList < a.cps.toList))) H
  | _, _ => False
def oGe : R2 := fun x y H Q => match x, y with
  | .int i, .int j => Q (.bl (decide (j ≤ i))) H
  | .str a, .str b => Q (.bl (!decide (a.cps.toList < b.cps.toList))) H
  | _, _ => False
def oEq (K : PySem.W.Frag) : R2 := fun x y H Q => (scal x y = true ∧ Q (.bl (decide (x = y))) H) ∨ rEqD K x y H Q
def oNe (K : PySem.W.Frag) : R2 := fun x y H Q => (scal x y = true ∧ Q (.bl (!decide (x = y))) H) ∨ rNeD K x y H Q
def oIs : R2 := fun x y H Q => match y with
  | .non => Q (.bl (decide (x = .non))) H
  | .bl b => (match x with
    | .bl a => Q (.bl (decide (a = b))) H
    | .int _ => Q (.bl false) H
    | _ => False)
  | _ => False
def oIsNot : R2 := fun x y H Q => match y with
  | .non => Q (.bl (!decide (x = .non))) H
  | .bl b => (match x with
    | .bl a => Q (.bl (!decide (a = b))) H
    | .int _ => Q (.bl true) H
    | _ => False)
  | _ => False
section
variable {X : Cx}
theorem r_add : OpR X (binaryOp .Add) (oAdd X.K) := by
  refine OpR_imp (op_add.or (op_add_str.or (op_cat.or op_catA))) fun x y H Q h => ?_
  unfold oAdd at h
  split at h
  · exact .inl ⟨_, _, rfl, rfl, h⟩
  · exact .inr (.inl ⟨_, _, rfl, rfl, h.1, h.2⟩)
  · split at h
    · rename_i hp hq
      exact .inr (.inr (.inl ⟨_, _, _, _, rfl, rfl, hp, hq, h.1, h.2⟩))
    · rename_i hp hq
      exact .inr (.inr (.inr ⟨_, _, _, _, rfl, rfl, .of hp, .of hq, h.1, h.2.1, h.2.2.1, h.2.2.2⟩))
    · exact h.elim
  · exact h.elim
theorem r_sub : OpR X (binaryOp .Sub) oSub := OpR_imp op_sub fun x y H Q h => by
  unfold oSub at h
  split at h
  · exact ⟨_, _, rfl, rfl, h⟩
  · exact h.elim
theorem r_mul : OpR X (binaryOp .Mult) oMul := by
  intro pins s σ H x y v u Q I rx ry h
  unfold oMul at h
  split at h
  · exact op_mulW pins s σ H _ _ v u Q I rx ry ⟨_, _, rfl, rfl, h.1, h.2⟩
  · obtain ⟨t1, rfl⟩ := rx
    obtain ⟨t2, rfl⟩ := ry
    exact PySem.SB.mul h.1 fun t' k => ⟨.str _, H, I.tok _, ⟨_, rfl⟩, h.2⟩
  · split at h
    · rename_i e
      exact op_rep pins s σ H _ _ v u Q I rx ry ⟨_, _, _, rfl, rfl, e, h.1, h.2.1, h.2.2.1, h.2.2.2⟩
    · rename_i e
      exact op_repT pins s σ H _ _ v u Q I rx ry ⟨_, _, _, rfl, rfl, .inl (.inl e), h.1, h.2.1, h.2.2.1, h.2.2.2.1, h.2.2.2.2⟩
    · exact h.elim
  · exact h.elim
theorem r_fdiv : OpR X (binaryOp .FloorDiv) oFdiv := OpR_imp op_fdivW fun x y H Q h => by
  unfold oFdiv at h
  split at h
  · exact ⟨_, _, rfl, rfl, h.1, h.2⟩
  · exact h.elim
theorem r_mod : OpR X (binaryOp .Mod) oMod := OpR_imp op_mod fun x y H Q h => by
  unfold oMod at h
  split at h
  · exact ⟨_, _, rfl, rfl, h.1, h.2⟩
  · exact h.elim
theorem r_pow : OpR X (binaryOp .Pow) oPow := OpR_imp op_pow fun x y H Q h => by
  unfold oPow at h
  split at h
  · exact ⟨_, _, rfl, rfl, h.1, h.2⟩
  · exact h.elim
theorem r_shl : OpR X (binaryOp .LShift) oShl := OpR_imp op_shl fun x y H Q h => by
  unfold oShl at h
  split at h
  · exact ⟨_, _, rfl, rfl, h.1, h.2⟩
  · exact h.elim
theorem r_lt : OpR X (compareOp .Lt) oLt := OpR_imp (op_lt.or op_lt_str) fun x y H Q h => by
  unfold oLt at h
  split at h
  · exact .inl ⟨_, _, rfl, rfl, h⟩
  · exact .inr ⟨_, _, rfl, rfl, h⟩
  · exact h.elim
theorem r_le : OpR X (compareOp .LtE) oLe := OpR_imp (op_le.or op_le_str) fun x y H Q h => by
  unfold oLe at h
  split at h
  · exact .inl ⟨_, _, rfl, rfl, h⟩
  · exact .inr ⟨_, _, rfl, rfl, h⟩
  · exact h.elim
theorem r_gt : OpR X (compareOp .Gt) oGt := OpR_imp (op_gt.or op_gt_str) fun x y H Q h => by
  unfold oGt at h
  split at h
  · exact .inl ⟨_, _, rfl, rfl, h⟩
  · exact .inr ⟨_, _, rfl, rfl, h⟩
  · exact h.elim
theorem r_ge : OpR X (compareOp .GtE) oGe := OpR_imp (op_ge.or op_ge_str) fun x y H Q h => by
  unfold oGe at h
  split at h
  · exact .inl ⟨_, _, rfl, rfl, h⟩
  · exact .inr ⟨_, _, rfl, rfl, h⟩
  · exact h.elim
theorem r_eq (hu : X.A.units + 64 < cLine) : OpR X (compareOp .Eq) (oEq X.K) := op_eq.or (op_eqD hu)
theorem r_ne (hu : X.A.units + 64 < cLine) : OpR X (compareOp .NotEq) (oNe X.K) := op_ne.or (op_neD hu)
theorem op_is_ib : OpR X (compareOp .Is) (fun x y H Q => ∃ i b, x = .int i ∧ y = .bl b ∧ Q (.bl false) H) := by
  intro pins s σ H x y v u Q I rx ry h
  obtain ⟨i, b, rfl, rfl, q⟩ := h
  obtain ⟨t, rfl⟩ := rx
  cases (show u = Value.bool b from ry)
  exact wpAny_is_other rfl (fun z => nomatch z) ⟨.bl false, H, I, rfl, q⟩
theorem op_isnot_ib : OpR X (compareOp .IsNot) (fun x y H Q => ∃ i b, x = .int i ∧ y = .bl b ∧ Q (.bl true) H) := by
  intro pins s σ H x y v u Q I rx ry h
  obtain ⟨i, b, rfl, rfl, q⟩ := h
  obtain ⟨t, rfl⟩ := rx
  cases (show u = Value.bool b from ry)
  exact wpAny_isNot_other rfl (fun z => nomatch z) ⟨.bl true, H, I, rfl, q⟩
theorem r_is : OpR X (compareOp .Is) oIs := OpR_imp (op_isN.or (op_is_bl.or op_is_ib)) fun x y H Q h => by
  unfold oIs at h
  split at h
  · exact .inl ⟨rfl, h⟩
  · split at h
    · exact .inr (.inl ⟨_, _, rfl, rfl, h⟩)
    · exact .inr (.inr ⟨_, _, rfl, rfl, h⟩)
    · exact h.elim
  · exact h.elim
theorem r_isnot : OpR X (compareOp .IsNot) oIsNot := OpR_imp (op_notN.or (op_isnot_bl.or op_isnot_ib)) fun x y H Q h => by
  unfold oIsNot at h
  split at h
  · exact .inl ⟨rfl, h⟩
  · split at h
    · exact .inr (.inl ⟨_, _, rfl, rfl, h⟩)
    · exact .inr (.inr ⟨_, _, rfl, rfl, h⟩)
    · exact h.elim
  · exact h.elim
end
end WR

set_option Elab.async false
set_option linter.all false
set_option maxRecDepth 100000
set_option maxHeartbeats 4000000
namespace WR
open PySem PySem.Spec PyProof.Rows L2

/-! ## a def's promise where no repr is under way (so that repr of lists may be asked) -/
structure FnW (P : Program) (w : World) (K : PySem.W.Frag) (mg : Str → Option Value) (base : Heap) (CX : CXT) (k : Nat) (f : Addr) (fd : FuncData) (ps : List Str) (sp : Sp) : Prop where
  len : ∀ vs H Q E, sp vs H Q E → vs.length = ps.length
  run : ∀ (A : Around) (outer : List Env) (s : Shared) (H : Hp) (args : Args) (us : List Value) (vs : List V) (Q : VK) (E : XK), Room k A → A.guards = some [] →
    Env0 P w K mg base A outer s H → BindsTo s fd args (ps.zip us) → Vals vs us → sp vs H Q E → codeAny (model P w) A (.call (.ref f) args) (CR CX outer P w H s Q E) s
theorem FnW.false_ {P : Program} {w : World} {K : PySem.W.Frag} {mg : Str → Option Value} {base : Heap} {CX : CXT} {k : Nat} {f : Addr} {fd : FuncData} {ps : List Str} : FnW P w K mg base CX k f fd ps (fun _ _ _ _ => False) :=
  ⟨fun _ _ _ _ z => z.elim, fun _ _ _ _ _ _ _ _ _ _ _ _ _ _ z => z.elim⟩
theorem gd_make {A : Around} (g : A.guards = some []) (C : Addr) (us : List Value) (kw : List (Str × Value)) : (A.under (.builtin "type.__call__" ⟨.ref C :: us, kw⟩)).guards = some [] := by
  have e : (A.under (.builtin "type.__call__" ⟨.ref C :: us, kw⟩)).guards = A.guards := by
    first
      | rfl
      | simp [Around.under, Code.guards, Code.isGuard, guardIds, pushGuards, g]
  rw [e, g]
section
variable {CX : CXT} {P : Program} {w : World} {K : PySem.W.Frag} {mg : Str → Option Value} {base : Heap} {N ps : List Str} {k : Nat} {sp : Sp} {x qual : Str} {params : Arguments} {body : List Stmt} {scope : Scope} {dvs : List V} {kws : List (Str × V)} {f : Addr} {fd : FuncData}
/-- from the reading of its body -/
theorem fnW_of (F : FunD K x qual params body scope dvs kws f fd) (S : FnScope N ps scope) (len : ∀ vs H Q E, sp vs H Q E → vs.length = ps.length)
    (hbody : ∀ (cdv : Value) (A : Around) (outer : List Env) (s : Shared) (H : Hp) (vs : List V) (Q : VK) (E : XK), Room k (A.deeper (envOfC qual scope s.heap.objs.size f cdv)) → A.guards = some [] → sp vs H Q E →
      ∃ t, PSs (cxOf CX P w K mg base N qual scope f cdv A outer s H E) body t ∧ t { nx := fun _ H' => Q .non H', rt := Q } (start N vs) H) : FnW P w K mg base CX (k + 1) f fd ps sp := by
  obtain ⟨oc, od, dV, kV, doc, pm, an, cdv, ct, osl, rfl, lk, hcd, _, _⟩ := F.ex
  constructor
  · exact len
  intro A outer s H args us vs Q E room gd env binds rel want
  have KX : K.In s.heap := env.mod.kin.keeps fun b o z => (env.bs b o z).1
  have nolim : s.heap.NoLimit := env.mod.nolimit.keeps fun b o z => (env.bs b o z).1
  have known : ∀ y ∈ ps.zip us, scope.names.lookup y.1 = some .local ∨ (scope.names.lookup y.1 = some .cell ∧ ((cellsFrom (s.heap.objs.size + 1) scope.names []).lookup y.1).isSome = true) := by
    rintro ⟨n, v⟩ hy
    cases S.par n (List.of_mem_zip hy).1 with
    | inl q => exact .inl q
    | inr q => exact .inr ⟨q, PySem.W.cellsFrom_some _ _ _ (.inl q)⟩
  apply codeAny_call_function room.depth (KX _ _ lk) rfl S.co S.gen rfl (PySem.W.codeRec_of KX hcd)
  apply binds
  apply wpAny_newFunctionEnv_cells S.kind known
  rintro env' rfl s1 inc
  refine ⟨nolim.keeps inc.toInCall.keep, codeAny_func ?_⟩
  obtain ⟨t, ht, hq⟩ := hbody cdv A outer s H vs Q E (room.deeper _) gd want
  have start_ok : Inv (cxOf CX P w K mg base N qual scope f cdv A outer s H E) [] (start N vs) H s1 := inv_start S room.hd env (len _ _ _ _ want) rel inc
  refine wpAny_mono (ht.run [] s1 (start N vs) H _ start_ok hq) ?_ (fun _ _ z => z)
  intro fl s' got
  have back : ∀ {σ' : St} {H' : Hp} {v : V} {u : Value}, Inv (cxOf CX P w K mg base N qual scope f cdv A outer s H E) [] σ' H' s' → RelV v u → Q v H' → CE outer P w H s Q u s' := by
    intro σ' H' v u J rv q
    exact ⟨v, H', J.os, J.bare, J.base, J.hok, rv, q⟩
  match fl, got with
  | .ret u, ⟨v, σ', H', J, rv, q⟩ => exact back J rv q
  | .next, ⟨σ', H', J, q⟩ => exact back (v := .non) (u := .none) J rfl q
  | .brk, ⟨_, _, _, q⟩ => exact q.elim
  | .cont, ⟨_, _, _, q⟩ => exact q.elim
end
/-! ## the promise of a def that is called while an exception is handled: nothing of its reading asks that none is -/
structure FnHW (P : Program) (w : World) (K : PySem.W.Frag) (mg : Str → Option Value) (base : Heap) (CX : CXT) (k : Nat) (f : Addr) (fd : FuncData) (ps : List Str) (sp : Sp) : Prop where
  len : ∀ vs H Q E, sp vs H Q E → vs.length = ps.length
  run : ∀ (A : Around) (outer : List Env) (s : Shared) (H : Hp) (args : Args) (us : List Value) (vs : List V) (Q : VK) (E : XK), L2H.RoomH k A → A.guards = some [] →
    Env0 P w K mg base A outer s H → BindsTo s fd args (ps.zip us) → Vals vs us → sp vs H Q E → codeAny (model P w) A (.call (.ref f) args) (CR CX outer P w H s Q E) s
theorem FnHW.false_ {P : Program} {w : World} {K : PySem.W.Frag} {mg : Str → Option Value} {base : Heap} {CX : CXT} {k : Nat} {f : Addr} {fd : FuncData} {ps : List Str} : FnHW P w K mg base CX k f fd ps (fun _ _ _ _ => False) :=
  ⟨fun _ _ _ _ z => z.elim, fun _ _ _ _ _ _ _ _ _ _ _ _ _ _ z => z.elim⟩
theorem FnHW.w {P : Program} {w : World} {K : PySem.W.Frag} {mg : Str → Option Value} {base : Heap} {CX : CXT} {k : Nat} {f : Addr} {fd : FuncData} {ps : List Str} {sp : Sp} (F : FnHW P w K mg base CX k f fd ps sp) : FnW P w K mg base CX k f fd ps sp :=
  ⟨F.len, fun A outer s H args us vs Q E r gd e b v h => F.run A outer s H args us vs Q E (L2H.roomH_of r) gd e b v h⟩
/-- the context of its body -/
def cxW (CX : CXT) (P : Program) (w : World) (K : PySem.W.Frag) (mg : Str → Option Value) (base : Heap) (N : List Str) (qual : Str) (scope : Scope) (f : Addr) (cd : Value) (A : Around) (outer : List Env) (s : Shared) (H : Hp) (E : XK) : Cx :=
  { cxOf CX P w K mg base N qual scope f cd A outer s H E with calm := false }
section
variable {CX : CXT} {P : Program} {w : World} {K : PySem.W.Frag} {mg : Str → Option Value} {base : Heap} {N ps : List Str} {k : Nat} {sp : Sp} {x qual : Str} {params : Arguments} {body : List Stmt} {scope : Scope} {dvs : List V} {kws : List (Str × V)} {f : Addr} {fd : FuncData}
theorem inv_startW {cd : Value} {A : Around} {outer : List Env} {s s1 : Shared} {H : Hp} {E : XK} {us : List Value} {vs : List V}
    (S : FnScope N ps scope) (e0 : Env0 P w K mg base A outer s H) (hl : vs.length = ps.length) (r : Vals vs us)
    (inc : InCallC s s.heap.objs.size (bindL (envOfC qual scope s.heap.objs.size f cd).kindOf (ps.zip us) fun _ => none) (cellsFrom (s.heap.objs.size + 1) scope.names []) (bindC (envOfC qual scope s.heap.objs.size f cd).kindOf (ps.zip us) fun _ => none) s1) :
    Inv (cxW CX P w K mg base N qual scope f cd A outer s H E) [] (start N vs) H s1 := by
  have e1 : Env0 P w K mg base { A with handled := none } outer s H := ⟨e0.frames, e0.mod, e0.bs, e0.bsz, e0.funs, e0.frf, e0.hok, e0.bare⟩
  have I : Inv (cxOf CX P w K mg base N qual scope f cd { A with handled := none } outer s H E) [] (start N vs) H s1 := inv_start S rfl e1 hl r inc
  have ok := I.ok
  exact ⟨⟨ok.mod, ok.kind, ok.glob, ok.blt, ok.above, ok.inj, ok.has, ok.cab, fun z => Bool.noConfusion (show false = true from z), Around.frames_deeper e0.frames, ok.stk, ok.exf, ok.bs, ok.bsz, ok.noex, ok.exfs, ok.funs, ok.frf⟩, I.os, I.bare, I.base, I.loc, I.cell, I.free, I.freeC, I.pin, I.hok, I.len⟩
/-- from the reading of its body -/
theorem fnHW_of (F : FunD K x qual params body scope dvs kws f fd) (S : FnScope N ps scope) (len : ∀ vs H Q E, sp vs H Q E → vs.length = ps.length)
    (hbody : ∀ (cdv : Value) (A : Around) (outer : List Env) (s : Shared) (H : Hp) (vs : List V) (Q : VK) (E : XK), L2H.RoomH k (A.deeper (envOfC qual scope s.heap.objs.size f cdv)) → A.guards = some [] → sp vs H Q E →
      ∃ t, PSs (cxW CX P w K mg base N qual scope f cdv A outer s H E) body t ∧ t { nx := fun _ H' => Q .non H', rt := Q } (start N vs) H) : FnHW P w K mg base CX (k + 1) f fd ps sp := by
  obtain ⟨oc, od, dV, kV, doc, pm, an, cdv, ct, osl, rfl, lk, hcd, _, _⟩ := F.ex
  constructor
  · exact len
  intro A outer s H args us vs Q E room gd env binds rel want
  have KX : K.In s.heap := env.mod.kin.keeps fun b o z => (env.bs b o z).1
  have nolim : s.heap.NoLimit := env.mod.nolimit.keeps fun b o z => (env.bs b o z).1
  have known : ∀ y ∈ ps.zip us, scope.names.lookup y.1 = some .local ∨ (scope.names.lookup y.1 = some .cell ∧ ((cellsFrom (s.heap.objs.size + 1) scope.names []).lookup y.1).isSome = true) := by
    rintro ⟨n, v⟩ hy
    cases S.par n (List.of_mem_zip hy).1 with
    | inl q => exact .inl q
    | inr q => exact .inr ⟨q, PySem.W.cellsFrom_some _ _ _ (.inl q)⟩
  apply codeAny_call_function room.depth (KX _ _ lk) rfl S.co S.gen rfl (PySem.W.codeRec_of KX hcd)
  apply binds
  apply wpAny_newFunctionEnv_cells S.kind known
  rintro env' rfl s1 inc
  refine ⟨nolim.keeps inc.toInCall.keep, codeAny_func ?_⟩
  obtain ⟨t, ht, hq⟩ := hbody cdv A outer s H vs Q E (room.deeper _) gd want
  have start_ok : Inv (cxW CX P w K mg base N qual scope f cdv A outer s H E) [] (start N vs) H s1 := inv_startW S env (len _ _ _ _ want) rel inc
  refine wpAny_mono (ht.run [] s1 (start N vs) H _ start_ok hq) ?_ (fun _ _ z => z)
  intro fl s' got
  have back : ∀ {σ' : St} {H' : Hp} {v : V} {u : Value}, Inv (cxW CX P w K mg base N qual scope f cdv A outer s H E) [] σ' H' s' → RelV v u → Q v H' → CE outer P w H s Q u s' := by
    intro σ' H' v u J rv q
    exact ⟨v, H', J.os, J.bare, J.base, J.hok, rv, q⟩
  match fl, got with
  | .ret u, ⟨v, σ', H', J, rv, q⟩ => exact back J rv q
  | .next, ⟨σ', H', J, q⟩ => exact back (v := .non) (u := .none) J rfl q
  | .brk, ⟨_, _, _, q⟩ => exact q.elim
  | .cont, ⟨_, _, _, q⟩ => exact q.elim
end
/-- the law's call: the script is an object of its own, known to the object -/
theorem lawW_call {P : Program} {w : World} {K : PySem.W.Frag} {mg mb : Str → Option Value} {CX : CXT} {k : Nat} {fa a : Addr} {fd : FuncData} {x : Str} {sp : Sp} {s₁ : Shared} {vs : List Value} {ns : List Int}
    (KX : K.In s₁.heap) (hns : s₁.heap.Ns mainGlobals mg) (hb : s₁.heap.Ns builtinsNs mb) (hbb : ∀ x : Str, x ≠ "__name__" → mb x = bootBuiltins x) (hlim : s₁.heap.NoLimit) (hg : s₁.gens = #[])
    (ha : s₁.heap.get? a = some { cls := .type "list", data := .seq vs.toArray }) (hi : IntsAre vs ns) (hl : ns.length ≤ sizeLine) (hr : Room k callerA) (hK : K.lookup a = none)
    (F : ∀ base : Heap, K.In base → base.Ns mainGlobals mg → FnW P w K mg base CX k fa fd [x] sp) (hbind : ∀ (s : Shared) (u : Value), BindsTo s fd ⟨[u], []⟩ [(x, u)])
    (hsp : ∀ H : Hp, Only H → (∃ o, H a = some (.frz o (.lst (ns.map V.int)))) → sp [.ref a] H (fun v _ => v = .bl true) fun _ _ _ => False)
    (hCX : ∀ H e s', CX [] H s₁ (fun _ _ _ => False) e s' → False) :
    codeAny (model P w) callerA (.call (.ref fa) ⟨[.ref a], []⟩) (fun r s' => r = .ok (.ret (.bool true)) ∧ OldK s₁.heap s'.heap ∧ s'.os = s₁.os ∧ AllBare s'.gens) s₁ := by
  have rel := vals_ints hi
  let H : Hp := fun b => if b = a then some (.frz { cls := .type "list", data := .seq vs.toArray } (.lst (ns.map V.int))) else none
  have Ha : H a = some (.frz { cls := .type "list", data := .seq vs.toArray } (.lst (ns.map V.int))) := if_pos rfl
  have Hn : ∀ {b : Addr}, b ≠ a → H b = none := fun z => if_neg z
  have only : Only H := fun b => by
    by_cases z : b = a
    · subst z; exact .inr ⟨_, _, Ha⟩
    · exact .inl (Hn z)
  have hok : HOk P w H s₁.heap := fun b u z => by
    by_cases e : b = a
    · subst e
      rw [Ha] at z; cases z
      exact ⟨ha, by rw [List.length_map]; exact hl, vs, _, rel, ha⟩
    · rw [Hn e] at z; cases z
  have hid : ∀ {b : Addr} {o : Obj}, s₁.heap.get? b = some o → b ≠ a → (hidT s₁.heap H).get? b = some o := fun z n => hidT_get z (Hn n)
  have nsK : ∀ {b : Addr} {m : Str → Option Value}, s₁.heap.Ns b m → (hidT s₁.heap H).Ns b m := by
    rintro b m ⟨o, es, ep, z, dd, r⟩
    refine ⟨o, es, ep, hid z ?_, dd, r⟩
    rintro rfl
    rw [ha] at z; cases z; cases dd
  have KB : K.In (hidT s₁.heap H) := fun b o z => hid (KX b o z) fun e => by rw [e, hK] at z; cases z
  have M : Mod K mg (hidT s₁.heap H) := by
    obtain ⟨mc, l1, l2⟩ := hlim
    exact ⟨KB, nsK hns, ⟨mb, nsK hb, hbb⟩, ⟨mc, nsK l1, l2⟩⟩
  have env : Env0 P w K mg (hidT s₁.heap H) callerA [] s₁ H := by
    refine ⟨rfl, M, fun b o z => of_hidT z, Nat.le_of_eq (hidT_size _ _), trivial, ?_, hok, .of_eq hg⟩
    intro b hb
    exact absurd (show b ∈ ([] : List Addr) from hb) (by simp)
  refine codeAny_mono ((F _ KB (nsK hns)).run callerA [] s₁ H ⟨[.ref a], []⟩ [.ref a] [.ref a] _ _ hr rfl env (hbind s₁ (.ref a)) (.cons rfl .nil) (hsp H only ⟨_, Ha⟩)) ?_
  intro r s' got
  match r, got with
  | .error e, got => exact (hCX H e s' got).elim
  | .ok .next, got => exact False.elim got
  | .ok .brk, got => exact False.elim got
  | .ok .cont, got => exact False.elim got
  | .ok (.ret u), got =>
    obtain ⟨v, H', os, bare, un, hok', ru, q⟩ := got
    obtain rfl : v = .bl true := q
    obtain rfl : u = Value.bool true := ru
    refine ⟨rfl, OldK.of_keep fun b o z => ?_, os, bare⟩
    by_cases e : b = a
    · subst e
      rw [ha] at z; cases z
      exact (hok' b _ (un.frzs b _ _ Ha)).1
    · exact un.keep b o z (Hn e) (fun m => absurd (show b ∈ ([] : List Addr) from m) (by simp)) (by simp)
end WR

set_option Elab.async false
set_option linter.all false
set_option maxRecDepth 100000
set_option maxHeartbeats 4000000
/-! ## own exception classes over ValueError, KeyError, LookupError, made by an own __init__(self, x): B.__init__(self, text); self.f = x -/
namespace WRX
open PySem PySem.W PySem.Calls PyProof.Rows PySem.HandSPX
/-- B.__init__ is BaseException's -/
structure XIn (B initId : String) : Prop where
  plain : plainId initId = true
  entry : entryFor table initId = some Builtin.«BaseException.__init__»
  split : splitId initId = some (B, "__init__")
  kind : builtinKind initId = some .slot
  row : Manifest.signature? initId = some ⟨.positional, "*", B, .self, [⟨"args", .varPos, false⟩]⟩
  noStar : (B != "*") = true
inductive XB where | val | key | loo
  deriving DecidableEq
/-- the built-in class -/
def XB.nm : XB → String | .val => "ValueError" | .key => "KeyError" | .loo => "LookupError"
/-- the class that brings __new__ -/
def XB.mk : XB → String | .val => "ValueError" | .key => "LookupError" | .loo => "LookupError"
def XB.new : XB → String | .val => "ValueError.__new__" | .key => "LookupError.__new__" | .loo => "LookupError.__new__"
def XB.ini : XB → String | .val => "ValueError.__init__" | .key => "KeyError.__init__" | .loo => "LookupError.__init__"
def XB.tail : XB → List Value
  | .val => [.type "ValueError", .type "Exception", .type "BaseException", .type "object"]
  | .key => [.type "KeyError", .type "LookupError", .type "Exception", .type "BaseException", .type "object"]
  | .loo => [.type "LookupError", .type "Exception", .type "BaseException", .type "object"]
theorem xin (b : XB) : XIn b.nm b.ini := by
  cases b
  · exact ⟨by decide +kernel, F.excCall_ValueError.initEntry, by kernel_rfl, by kernel_rfl, by kernel_rfl, by decide +kernel⟩
  · exact ⟨by decide +kernel, entryFor_alias (id' := "BaseException.__init__") (by rw [fastTable_eq_tree]; kernel_rfl) (by first | rfl | decide +kernel) (by decide +kernel) (by rw [fastTable_eq_tree]; kernel_rfl),
      by kernel_rfl, by kernel_rfl, by kernel_rfl, by decide +kernel⟩
  · exact ⟨by decide +kernel, F.excCall_LookupError.initEntry, by kernel_rfl, by kernel_rfl, by kernel_rfl, by decide +kernel⟩
theorem xbase (b : XB) : ∃ ini bmB, ExcBaseFacts b.mk b.new ini bmB := by
  cases b
  · exact ⟨_, _, F.excBase_ValueError⟩
  · exact ⟨_, _, F.excBase_LookupError⟩
  · exact ⟨_, _, F.excBase_LookupError⟩
def isRf : Value → Bool
  | .ref _ => true
  | _ => false
/-- own classes, then the built-in tail -/
def tailB (b : XB) (l : List Value) : Bool := decide (l.dropWhile isRf = b.tail)
theorem tail_split {b : XB} {l : List Value} (h : tailB b l = true) : ∃ rs, l = rs ++ b.tail ∧ ∀ r ∈ rs, isRf r = true := by
  have e : l.dropWhile isRf = b.tail := of_decide_eq_true h
  refine ⟨l.takeWhile isRf, ?_, fun r hr => ?_⟩
  · rw [← e, List.takeWhile_append_dropWhile]
  · have aux : ∀ m : List Value, r ∈ m.takeWhile isRf → isRf r = true := by
      intro m
      induction m with
      | nil => intro z; cases z
      | cons x m ih =>
        intro z
        rw [List.takeWhile_cons] at z
        split at z
        · rcases List.mem_cons.mp z with rfl | z
          · assumption
          · exact ih z
        · cases z
    exact aux l hr
theorem rfs_has {X : String} : ∀ {rs : List Value}, (∀ r ∈ rs, isRf r = true) → rs.contains (.type X) = false
  | [], _ => rfl
  | r :: rs, h => by
    have h1 := h r (List.mem_cons_self ..)
    rw [List.contains_cons, rfs_has fun q hq => h q (List.mem_cons_of_mem _ hq), Bool.or_false]
    cases r <;> first | rfl | (simp [isRf] at h1; done)
theorem tail_has {b : XB} {l : List Value} (h : tailB b l = true) (X : String) : l.contains (.type X) = b.tail.contains (.type X) := by
  obtain ⟨rs, rfl, hr⟩ := tail_split h
  rw [List.contains_eq_any_beq, List.any_append, ← List.contains_eq_any_beq, ← List.contains_eq_any_beq, rfs_has hr, Bool.false_or]
theorem tail_pass {b : XB} (self : Value) {l : List Value} (h : tailB b l = true) : refuseLoop self "__setattr__" l = pure () := by
  obtain ⟨rs, rfl, hr⟩ := tail_split h
  induction rs with
  | nil => cases b <;> kernel_rfl
  | cons r rs ih =>
    have h1 := hr r (List.mem_cons_self ..)
    cases r <;> first | (simp [isRf] at h1; done) | skip
    rw [List.cons_append, refuseLoop_ref]
    have h2 : tailB b (rs ++ b.tail) = true := by
      have : ((.ref _ :: rs) ++ b.tail).dropWhile isRf = b.tail := of_decide_eq_true h
      rw [List.cons_append, List.dropWhile_cons] at this
      exact decide_eq_true this
    exact ih (fun q hq => hr q (List.mem_cons_of_mem _ hq)) h2
theorem tail_ne {b : XB} {l : List Value} (h : tailB b l = true) : l.isEmpty = false := by
  obtain ⟨rs, rfl, hr⟩ := tail_split h
  cases rs <;> cases b <;> rfl
section
variable {M : Model} {A : Around} {E : Value → Shared → Prop} {h : Heap} {g : Array GenState} {d : Drawn} {t : Nat} {os : OsState}
variable {nm q : Str} {C N : Addr} {bs bm bmB : List Value} {hdct : Bool} {sn : List Str} {sub : List Value} {ab : Bool} {col : Option Bool} {dd : Option Addr} {k0 k1 k2 k3 k5 : Option Value} {B newId initId : String}
theorem xm_check (F : ExcBaseFacts B newId initId bmB) (hB : bm.contains (.type B) = true) {rest : List Value} {Q : Unit → Shared → Prop}
    (hC : h.get? C = some (excClassObj nm q C N bs bm hdct sn sub ab col dd k0 k1 k2 k3 k5 newId)) (hq : Q () ⟨h, g, d, t, os⟩) :
    wpAny M A (checkBuiltinCall newId ⟨.ref C :: rest, []⟩) Q E ⟨h, g, d, t, os⟩ := by
  have into : (Value.ref C :: bm).contains (.type B) = true := by simp only [List.contains_cons, hB, Bool.or_true]
  have star := F.noStar
  simp only [checkBuiltinCall, F.newSplit, F.newKind, F.newRow]
  repeat (first
    | refine wpAny_loadPart_at hC ?_
    | (refine wpAny_isSubtype_exc hC ?_; rw [into])
    | refine wpAny_staticBase_exc hC ?_
    | refine wpAny_madeBy_exc hC ?_
    | simp only [bne_self_eq_false, Bool.false_eq_true, if_false]
    | wp_step)
  exact hq
theorem xm_check_init (J : XIn B initId) (hB : bm.contains (.type B) = true) {e : Addr} {oe : Obj} {rest : List Value} {Q : Unit → Shared → Prop}
    (hC : h.get? C = some (excClassObj nm q C N bs bm hdct sn sub ab col dd k0 k1 k2 k3 k5 newId)) (he : h.get? e = some oe) (hcls : oe.cls = .ref C) (hq : Q () ⟨h, g, d, t, os⟩) :
    wpAny M A (checkBuiltinCall initId ⟨.ref e :: rest, []⟩) Q E ⟨h, g, d, t, os⟩ := by
  have into : (Value.ref C :: bm).contains (.type B) = true := by simp only [List.contains_cons, hB, Bool.or_true]
  have star := J.noStar
  simp only [checkBuiltinCall, J.split, J.kind, J.row]
  repeat (first
    | (with_reducible refine wpAny_loadPart_at he ?_; rw [hcls])
    | with_reducible refine wpAny_loadPart_at hC ?_
    | (with_reducible refine wpAny_isSubtype_exc hC ?_; rw [into])
    | wp_step)
  refine wpAny_onRaise ?_
  have star_ok : ∀ (a b : String) (n : Nat), Bind.check ⟨.positional, "*", B, .self, [⟨"args", .varPos, false⟩]⟩ a b n (List.map (fun x => x.fst) ({ pos := Value.ref e :: rest } : Args).kw) = pure () :=
    fun a b n => check_star_args _ _ _ _ _ _
  rw [star_ok]
  exact wpAny_pure hq
end
section
variable {prog : Program} {w : World} {A : Around} {E : Value → Shared → Prop} {R : Result → Shared → Prop} {h : Heap} {g : Array GenState} {d : Drawn} {t : Nat} {os : OsState}
variable {nm q : Str} {C N : Addr} {bs bm bmB : List Value} {hdct : Bool} {sn : List Str} {sub : List Value} {ab : Bool} {col : Option Bool} {dd : Option Addr} {k0 k1 k2 k3 k5 : Option Value} {B newId initId : String}
theorem xm_new (F : ExcBaseFacts B newId initId bmB) (hB : bm.contains (.type B) = true) (hA : bm.contains (.type "AttributeError") = false) (hN : bm.contains (.type "NameError") = false) {rest : List Value}
    (hC : h.get? C = some (excClassObj nm q C N bs bm hdct sn sub ab col dd k0 k1 k2 k3 k5 newId))
    (hq : R (.ok (.ret (.ref (h.objs.size + 1)))) ⟨(h.push (kdv_tup rest)).push (excO C h.objs.size), g, d, t, os⟩) (hrest : rest.length ≤ sizeLine) :
    codeAny (model prog w) A (.builtin newId ⟨.ref C :: rest, []⟩) R ⟨h, g, d, t, os⟩ := by
  have hends := F.ends
  have b1 : (Value.ref C :: bm).contains (.type B) = true := by simp only [List.contains_cons, hB, Bool.or_true]
  have b2 : (Value.ref C :: bm).contains (.type "AttributeError") = false := by simp only [List.contains_cons, hA]; rfl
  have b3 : (Value.ref C :: bm).contains (.type "NameError") = false := by simp only [List.contains_cons, hN]; rfl
  apply codeAny_builtinAt F.entry
  unfold Builtin.«BaseException.__new__»
  refine PySem.wpAt_bind ?_
  show PySem.wpAt _ _ _ (stack >>= _) _ _ _
  refine PySem.wpAt_bind (PySem.wpAt_stack fun p below => PySem.wpAt_of_wpAny ?_)
  wp_walk
  apply PySem.wpAt_of_wpAny
  rw [F.owner]
  repeat (first
    | with_reducible refine wpAny_madeHere_exc F.canon hC ?_
    | with_reducible refine wpAny_loadPart_at hC ?_
    | (with_reducible refine wpAny_isSubtype_exc hC ?_; first | rw [b1] | rw [b2] | rw [b3])
    | wp_step)
  show R _ _
  rw [Heap.size_push]
  exact hq
theorem xm_type_call (F : ExcBaseFacts B newId initId bmB) (hB : bm.contains (.type B) = true) (hA : bm.contains (.type "AttributeError") = false) (hN : bm.contains (.type "NameError") = false) {rest : List Value} {fI : Addr} {Q : Fin → Shared → Prop}
    (hC : h.get? C = some (excClassObj nm q C N bs bm hdct sn sub ab col dd k0 k1 k2 k3 k5 newId))
    (hi : Looks (model prog w) h (typeLookup (.ref C) "__init__") (some (.ref fI))) (hb : ∀ self, Looks (model prog w) h (bindSpecial (.ref fI) self) (.ref fI, [self])) (hrest : rest.length ≤ sizeLine)
    (hq : codeAny (model prog w) A (.call (.ref fI) ⟨.ref (h.objs.size + 1) :: rest, []⟩)
      (fun r s' => match r with | .ok (.ret v) => v = .none ∧ Q (.done (.ret (.ref (h.objs.size + 1)))) s' | .ok _ => False | .error e => E e s')
      ⟨(h.push (kdv_tup rest)).push (excO C h.objs.size), g, d, t, os⟩) :
    wpAny (model prog w) A (Builtin.«type.__call__» ⟨.ref C :: rest, []⟩) Q E ⟨h, g, d, t, os⟩ := by
  repeat (first
    | with_reducible refine wpAny_loadPart_at hC ?_
    | with_reducible refine wpAny_madeBy_exc hC ?_
    | wp_step)
  apply codeAny_call_builtin_code (Code.quiet_builtin _ F.quiet)
  apply xm_check F hB hC
  refine xm_new F hB hA hN hC ?_ hrest
  show wpAny _ _ _ _ _ _
  have k : ∀ b o, h.get? b = some o → ((h.push (kdv_tup rest)).push (excO C h.objs.size)).get? b = some o := fun b o z => Heap.get?_push_of_some _ (Heap.get?_push_of_some _ z)
  have C1 := k _ _ hC
  have new_ : ((h.push (kdv_tup rest)).push (excO C h.objs.size)).get? (h.objs.size + 1) = some (excO C h.objs.size) := by heap_get
  have self_ : (Value.ref C :: bm).contains (.ref C) = true := by simp
  have i1 := hi.keeps k
  have b1 := (hb (.ref (h.objs.size + 1))).keeps k
  unfold isInstance
  repeat (first
    | with_reducible refine wpAny_loadPart_at new_ ?_
    | (with_reducible refine wpAny_isSubtype_exc C1 ?_; rw [self_])
    | wp_step)
  show wpAny _ _ (typeLookup (.ref C) _) _ _ _
  refine i1.at (wpAny_holding (wpAny_bind (b1.at (wpAny_bind (wpAny_call (codeAny_mono hq fun r s' z => ?_))))))
  rcases r with e | (v | _ | _ | _) <;> first | exact z | exact False.elim z | skip
  obtain ⟨rfl, z⟩ := z
  first
    | exact wpAny_pure (wpAny_pure z)
    | (wp_walk; exact z)
theorem xm_call (F : ExcBaseFacts B newId initId bmB) (hB : bm.contains (.type B) = true) (hA : bm.contains (.type "AttributeError") = false) (hN : bm.contains (.type "NameError") = false) {rest : List Value} {fI : Addr}
    (hC : h.get? C = some (excClassObj nm q C N bs bm hdct sn sub ab col dd k0 k1 k2 k3 k5 newId))
    (hi : Looks (model prog w) h (typeLookup (.ref C) "__init__") (some (.ref fI))) (hb : ∀ self, Looks (model prog w) h (bindSpecial (.ref fI) self) (.ref fI, [self])) (hrest : rest.length ≤ sizeLine)
    (hq : codeAny (model prog w) (A.under (.builtin "type.__call__" ⟨.ref C :: rest, []⟩)) (.call (.ref fI) ⟨.ref (h.objs.size + 1) :: rest, []⟩) (InitBack (h.objs.size + 1) R)
      ⟨(h.push (kdv_tup rest)).push (excO C h.objs.size), g, d, t, os⟩) :
    codeAny (model prog w) A (.call (.ref C) ⟨rest, []⟩) R ⟨h, g, d, t, os⟩ := by
  have l1 := tc_lookup
  have l2 := tc_bind (.ref C)
  have ty : (⟨h, g, d, t, os⟩ : Shared).TypeIs (.ref C) "type" := ⟨_, hC, rfl⟩
  apply codeAny_of_tree
  show wpAny _ _ (callAny (.ref C) _) _ _ _
  repeat (any_goals (first
    | assumption
    | with_reducible refine wpAny_loadPart_at hC ?_
    | wp_step))
  refine ⟨rfl, codeAny_call_builtin_at (Code.quiet_builtin _ (by decide +kernel)) entry_typeCall (wpAny_check_type_call_sub hC (xm_type_call F hB hA hN hC hi hb hrest ?_))⟩
  refine codeAny_mono hq fun r s' z => ?_
  rcases r with e | (v | _ | _ | _) <;> exact z
/-- B.__init__(e, ..): the args are laid anew -/
theorem xm_init (J : XIn B initId) (hB : bm.contains (.type B) = true) {e t0 : Addr} {rest : List Value}
    (hC : h.get? C = some (excClassObj nm q C N bs bm hdct sn sub ab col dd k0 k1 k2 k3 k5 newId)) (he : h.get? e = some (excO C t0)) (hrest : rest.length ≤ sizeLine)
    (hq : ∀ h' t1, (∀ b o, b ≠ e → h.get? b = some o → h'.get? b = some o) → h'.get? e = some (excO C t1) → R (.ok (.ret .none)) ⟨h', g, d, t, os⟩) :
    codeAny (model prog w) A (.call (.builtin initId) ⟨.ref e :: rest, []⟩) R ⟨h, g, d, t, os⟩ := by
  apply codeAny_call_builtin J.plain J.entry
  apply xm_check_init J hB hC he rfl
  wp_walk
  apply hq _ h.objs.size
  · intro b o hb ho
    rw [Heap.get?_update_other _ _ (Ne.symm hb)]
    exact Heap.get?_push_of_some _ ho
  · rw [Heap.get?_update_self _ (Heap.get?_push_of_some _ he) rfl]
    rfl
end
section
open Builtin Builtin.ObjectAttr
variable {prog : Program} {w : World} {A : Around} {R : Result → Shared → Prop} {hp : Heap} {g : Array GenState} {d : Drawn} {t : Nat} {os : OsState}
/-- the first field of an exception that has no dict yet -/
theorem xm_osa {K : W.Frag} {b : XB} {name : Str} {tk : Tok} {v : Value} {x C : Addr} {fv : Array Value} {cd : ClassData}
    (X : K.In hp) (hx : hp.get? x = some { cls := .ref C, data := .fields fv }) (hcd : W.clsIn K C = some cd) (hm : tailB b cd.mro = true) (hh : cd.hasDict = true) (ha : W.findIn K (.ref C) name = some none)
    (hq : ∀ h' tk' dx, (∀ b o, b ≠ x → hp.get? b = some o → h'.get? b = some o) → hp.objs.size ≤ dx → dx ≠ x → h'.get? x = some { cls := .ref C, dict := some dx, data := .fields fv } →
      h'.Ns1 dx (fun y => if y = name then some v else none) → R (.ok (.ret .none)) ⟨h', g, d, tk', os⟩) :
    codeAny (model prog w) A (.call (.builtin "object.__setattr__") ⟨[.ref x, .str name tk, v], []⟩) R ⟨hp, g, d, t, os⟩ := by
  have I : W.InstAt hp x { cls := .ref C, data := .fields fv } C none := ⟨hx, rfl, rfl, trivial⟩
  have SF := F.store_object
  have ne := tail_ne hm
  have hob : cd.mro.contains (.type "object") = true := by
    rw [tail_has hm]
    cases b <;> decide +kernel
  have apart : x ≠ hp.objs.size := Nat.ne_of_lt (Heap.lt_size hx)
  have into : W.mroIn K C (.type "object") = some true := by
    unfold W.mroIn
    rw [hcd, Option.bind_some, ne, hob]
    rfl
  have sub : W.Looks (model prog w) hp (isInstance (.ref x) (.type "object")) true := I.type.andThen (W.looks_mroIn X into)
  apply codeAny_call_builtin SF.slot.plain SF.entry
  apply @W.check_slot (model prog w) _ _ ⟨hp, g, d, t, os⟩ "object.__setattr__" "object" "__setattr__" (.ref x) [.str name tk, v] [] _ SF.kind SF.split sub (SF.args (.ref x) (.str name tk) v)
  have hmr : W.Looks (model prog w) hp (mroOf (.ref C)) cd.mro := (W.looks_clsIn X hcd).andThen .now
  have none_ : W.Looks (model prog w) hp (storeTaker? none) none := .now
  have cls_ : W.Looks (model prog w) hp (classData C) cd := W.looks_clsIn X hcd
  rw [W.osa_eq, refuse_eq]
  apply wpAny_bind
  apply wpAny_bind
  refine I.type.at (wpAny_bind (hmr.at ?_))
  rw [tail_pass _ hm]
  refine wpAny_pure (wpAny_bind (I.type.at (wpAny_bind ((W.looks_findIn X ha).at (wpAny_bind (none_.at ?_))))))
  show wpAny _ _ (storeInOwnDict (.ref x) (.ref C) (.str name tk) name v false) _ _ _
  obtain ⟨nm, bs, mro, ns, qn, hd, sn, sb, ab, col, del⟩ := cd
  dsimp only at hh
  subst hh
  unfold storeInOwnDict ownDictForStores
  repeat (first
    | with_reducible refine store_in_new ?_ ?_
    | with_reducible refine wpAny_loadPart_at hx ?_
    | with_reducible refine cls_.at ?_
    | wp_step)
  · exact ⟨_, #[], _, (Heap.get?_update_ne _ _ _ _ apart.symm).trans (Heap.get?_push_at rfl rfl), rfl, fun e he => absurd he (by simp), fun _ => rfl⟩
  · intro h' tk' hn' hs
    have hx1 : (hp.push { cls := .type "dict", data := .dict #[] }).get? x = some { cls := .ref C, data := .fields fv } := Heap.get?_push_of_some _ hx
    apply hq h' tk' hp.objs.size
    · intro b o hb ho
      exact (hs.2 b (Nat.ne_of_lt (Heap.lt_size ho))).trans ((Heap.get?_update_ne _ _ _ _ hb).trans (Heap.get?_push_of_some _ ho))
    · exact Nat.le_refl _
    · exact apart.symm
    · exact (hs.2 x apart).trans (Heap.get?_update_self _ hx1 rfl)
    · exact hn'
end
end WRX

set_option Elab.async false
set_option linter.all false
set_option maxRecDepth 100000
set_option maxHeartbeats 4000000
namespace WR
open PySem PySem.Spec PyProof.Rows L2
open WRX (XB tailB)
/-! ## own exceptions, made by C(e) where C's __init__ says B.__init__(self, text); self.f = x -/
/-- what the written part says of such a class -/
structure XcC (K : PySem.W.Frag) (b : XB) (C : Addr) : Prop where
  cls : ∃ nm q N bs bm sn sub ab col dd k0 k1 k2 k3 k5, K.lookup C = some (excClassObj nm q C N bs bm true sn sub ab col dd k0 k1 k2 k3 k5 b.new) ∧ tailB b bm = true
  sa : PySem.W.findIn K (.ref C) "__setattr__" = some (some (.builtin "object.__setattr__"))
  exC : PySem.W.subIn K (.ref C) (.type "BaseException") = some true
  tyC : PySem.W.typeIn K (.ref C) = some (.type "type")
  kC : PySem.W.keepIn K (.ref C) = true
def xcO (b : XB) (C : Addr) (o : Obj) : Bool := match o with
  | ⟨.type t, _, .cls ⟨_, _, .ref C' :: bm, _, _, true, _, _, _, _, false⟩, sl⟩ => (t == "type") && (decide (C' = C) && (tailB b bm && (match sl.toList with
    | [_, _, _, _, some (.builtin id), _] => id == b.new
    | _ => false)))
  | _ => false
theorem xcO_ok {b : XB} {C : Addr} {o : Obj} (h : xcO b C o = true) : ∃ nm q N bs bm sn sub ab col dd k0 k1 k2 k3 k5, o = excClassObj nm q C N bs bm true sn sub ab col dd k0 k1 k2 k3 k5 b.new ∧ tailB b bm = true := by
  unfold xcO at h
  split at h
  · simp only [Bool.and_eq_true, decide_eq_true_eq, beq_iff_eq] at h
    obtain ⟨rfl, rfl, h2, h3⟩ := h
    split at h3
    · rename_i e
      have e3 := beq_iff_eq.mp h3
      subst e3
      have e5 : ∀ {sl : Array (Option Value)} {l : List (Option Value)}, sl.toList = l → sl = l.toArray := fun z => Array.ext' z
      rw [e5 e]
      exact ⟨_, _, _, _, _, _, _, _, _, _, _, _, _, _, _, rfl, h2⟩
    · cases h3
  · cases h
def xcB (K : PySem.W.Frag) (b : XB) (C : Addr) : Bool := (match K.lookup C with | some o => xcO b C o | none => false) && (decide (PySem.W.findIn K (.ref C) "__setattr__" = some (some (.builtin "object.__setattr__"))) &&
  (decide (PySem.W.subIn K (.ref C) (.type "BaseException") = some true) && (decide (PySem.W.typeIn K (.ref C) = some (.type "type")) && PySem.W.keepIn K (.ref C))))
theorem xcB_ok {K : PySem.W.Frag} {b : XB} {C : Addr} (h : xcB K b C = true) : XcC K b C := by
  unfold xcB at h
  simp only [Bool.and_eq_true, decide_eq_true_eq] at h
  obtain ⟨h1, h2, h3, h4, h5⟩ := h
  refine ⟨?_, h2, h3, h4, h5⟩
  split at h1
  · rename_i o e
    obtain ⟨nm, q, N, bs, bm, sn, sub, ab, col, dd, k0, k1, k2, k3, k5, rfl, ht⟩ := xcO_ok h1
    exact ⟨nm, q, N, bs, bm, sn, sub, ab, col, dd, k0, k1, k2, k3, k5, e, ht⟩
  · cases h1
section
variable {X : Cx} {pins : List (Addr × Obj)} {σ : St} {H : Hp} {s : Shared} {a C dx P : Addr} {f : Str} {y : V} {u : Value} {fs : List (Str × V)} {b : XB}
/-- self.f = y, the first one -/
theorem ox_set {Q : Unit → Shared → Prop} {E : Value → Shared → Prop} {A : Around} (T : XcC X.K b C) (I : Inv X pins σ H s) (e : H a = some (exo a C none)) (hno : PySem.W.findIn X.K (.ref C) f = some none) (ry : RelV y u)
    (h : ∀ dx s', H dx = none → dx ≠ a → Inv X pins σ (upd (upd H dx (exd dx [(f, y)])) a (exo a C (some dx))) s' → Q () s') : wpAny (model X.prog X.w) A (setAttr (.ref a) f u) Q E s := by
  obtain ⟨nm, q, N, bs, bm, sn, sub, ab, col, dd, k0, k1, k2, k3, k5, hC, hbm⟩ := T.cls
  have data : PySem.W.clsIn X.K C = some { name := nm, bases := bs, mro := .ref C :: bm, ns := N, qualname := q, hasDict := true, slotNames := sn, subclasses := sub, abstract := ab, collection := col, hasDel := false } := by
    unfold PySem.W.clsIn
    rw [hC] <;> rfl
  obtain ⟨t1, there⟩ := exo_at I.hok e
  obtain ⟨hp, g, d, t, os⟩ := s
  have tl : tailB b (.ref C :: bm) = true := by
    unfold tailB
    rw [List.dropWhile_cons]
    exact hbm
  apply PySem.W.set_plain I.kIn (ox := { cls := .ref C, dict := none, data := .fields #[.ref t1, .none, .none, .none, .bool false, .none] }) (od := none) ⟨there, rfl, rfl, trivial⟩ T.sa
  apply WRX.xm_osa I.kIn there data tl rfl hno
  intro h' tk' dx keep far apart ox ns
  have free : H dx = none := I.hok.fresh far
  have low : ∀ {c : Addr} {o : Obj}, hp.get? c = some o → c ≠ dx := fun z => Nat.ne_of_lt (Nat.lt_of_lt_of_le (Heap.lt_size z) far)
  have not_a : ∀ {c : Addr}, H c = none → c ≠ a := by
    rintro c n rfl
    rw [e] at n
    cases n
  have un : Un X.fs [] H (upd (upd H dx (exd dx [(f, y)])) a (exo a C (some dx))) hp h' := by
    constructor
    · intro c o z n _ _
      exact keep c o (not_a n) z
    · intro c o z n _ _
      exact ⟨o.slots, keep c o (not_a n) z⟩
    · intro c o z n _
      rw [upd_ne (not_a n), upd_ne (low z)]
      exact n
    · intro c o z _
      by_cases q : c = a
      · subst q
        exact ⟨_, ox⟩
      · exact ⟨o, keep c o q z⟩
    · intro c xs z
      rw [upd_ne (at_ne e z exo_tup), upd_ne (ne_of_none z free)]
      exact z
    · intro c o v z
      rw [upd_ne (at_ne e z exo_frz), upd_ne (ne_of_none z free)]
      exact z
    · intro c ps z
      refine ⟨#[], ?_⟩
      rw [upd_ne (at_ne e z exo_tbl), upd_ne (ne_of_none z free), z]
      simp
  refine h dx _ free apart (I.un (t' := tk') un ?_)
  intro c o z
  by_cases q : c = a
  · subst q
    rw [upd_same] at z
    cases z
    exact exo_ok ox
  rw [upd_ne q] at z
  by_cases q2 : c = dx
  · subst q2
    rw [upd_same] at z
    cases z
    exact exd_ok ns (relO_put (fs := []) ry fun _ => True.intro)
  rw [upd_ne q2] at z
  refine (I.hok c o z).stay ?_ ?_ ?_
  · intro c2 v hc k
    refine keep c2 v ?_ k
    rcases hc with rfl | hc
    · exact q
    · exact at_ne e hc exo_own
  · intro c2 hc
    rw [upd_ne (at_ne e hc exo_own), upd_ne (ne_of_none hc free)]
    exact hc
  · intro c2 xs hc
    rw [upd_ne (at_ne e hc exo_tup), upd_ne (ne_of_none hc free)]
    exact hc
/-- B.__init__(self, ..) -/
theorem ox_init {us : List Value} {Q : Value → Shared → Prop} (T : XcC X.K b C) (I : Inv X pins σ H s) (e : H a = some (exo a C none)) (hl : us.length ≤ sizeLine) (h : ∀ s', Inv X pins σ H s' → Q .none s') :
    wpAny (model X.prog X.w) X.A (call (.builtin b.ini) (.ref a :: us)) Q X.xe s := by
  obtain ⟨nm, q, N, bs, bm, sn, sub, ab, col, dd, k0, k1, k2, k3, k5, hC, hbm⟩ := T.cls
  obtain ⟨t1, there⟩ := exo_at I.hok e
  obtain ⟨hp, g, d, t, os⟩ := s
  have into : bm.contains (.type b.nm) = true := by
    rw [WRX.tail_has hbm]
    cases b <;> decide +kernel
  refine wpAny_call (WRX.xm_init (WRX.xin b) into (I.kIn _ _ hC) there hl fun h' t2 keep ox => ?_)
  have J := I.write (t' := t) (x := a) (e := a) (o := exo a C none) (by rw [e]; exact True.intro) (.inl rfl) keep ⟨_, ox⟩ (exo_ok ox)
  have same : upd H a (exo a C none) = H := funext fun c => by
    by_cases q : c = a
    · rw [q, upd_same, e]
    · rw [upd_ne q]
  rw [same] at J
  exact h _ J
/-- attributes of the class P are read plainly, its __init__ is B's -/
structure XpC (K : PySem.W.Frag) (b : XB) (P : Addr) : Prop where
  rd : PySem.W.readsIn K P (.type "type") = true
  ga : PySem.W.specialIn K (.ref P) "__getattribute__" = some (some (.builtin "type.__getattribute__"))
  ini : ∃ r, PySem.W.findCls K (.ref P) (.type "type") "__init__" = some r ∧ r = .val (.builtin b.ini)
def isV (r : Option PySem.W.CFound) (id : String) : Bool := match r with
  | some (.val (.builtin i)) => i == id
  | _ => false
def xpB (K : PySem.W.Frag) (b : XB) (P : Addr) : Bool := PySem.W.readsIn K P (.type "type") && (decide (PySem.W.specialIn K (.ref P) "__getattribute__" = some (some (.builtin "type.__getattribute__"))) &&
  isV (PySem.W.findCls K (.ref P) (.type "type") "__init__") b.ini)
theorem xpB_ok {K : PySem.W.Frag} {b : XB} {P : Addr} (h : xpB K b P = true) : XpC K b P := by
  unfold xpB at h
  simp only [Bool.and_eq_true, decide_eq_true_eq] at h
  refine ⟨h.1, h.2.1, ?_⟩
  have h3 := h.2.2
  unfold isV at h3
  split at h3
  · rename_i i e
    exact ⟨_, e, by rw [beq_iff_eq.mp h3]⟩
  · cases h3
end
/-- what it promises -/
def spX (b : XB) (K : PySem.W.Frag) (f : Str) : Sp := fun vs H Q _ => ∃ a y C, vs = [.ref a, y] ∧ XcC K b C ∧ PySem.W.findIn K (.ref C) f = some none ∧ H a = some (exo a C none) ∧ ∀ dx, H dx = none → dx ≠ a → Q .non (upd (upd H dx (exd dx [(f, y)])) a (exo a C (some dx)))
end WR

set_option Elab.async false
set_option linter.all false
set_option maxRecDepth 100000
set_option maxHeartbeats 4000000
namespace WR
open PySem PySem.Spec PyProof.Rows L2

/-! ## 4. what the text's names mean -/
/-- a def of the module, called with n written values and the keywords ks; arr puts them (and the defaults) in the parameters' order -/
structure FnI where
  name : Str
  n : Nat
  ks : List Str
  arr : List V → List V → List V
  sp : Sp
/-- a method of the class at cls (n, ks, arr: behind self) -/
structure MtI where
  cls : Addr
  name : Str
  n : Nat
  ks : List Str
  arr : List V → List V → List V
  sp : Sp
/-- a class whose instances are made by an own __init__ (n, ks, arr: behind self) -/
structure MkI where
  name : Str
  cls : Addr
  n : Nat
  ks : List Str
  arr : List V → List V → List V
  sp : Sp
/-- an own exception class whose __init__ keeps its one value under f -/
structure XcI where
  name : Str
  C : Addr
  f : Str
structure G where
  K : PySem.W.Frag
  fns : List FnI
  cons : List (Str × V)
  blt : List Str
  mts : List MtI
  mks : List MkI
  ats : List (Str × List Addr)
  nes : List (Str × Addr) := []
  xcs : List XcI := []
  tps : List (Str × List V) := []
  hfs : List FnI := []   -- defs that a suite may call

/-- a tuple of the written part, plain -/
def tupB (K : PySem.W.Frag) (a : Addr) : Bool := match K.lookup a with
  | some o => (match o.cls with
    | .type c => c == "tuple"
    | _ => false) && o.dict.isNone
  | none => false
theorem tupB_ok {K : PySem.W.Frag} {a : Addr} (h : tupB K a = true) : ∃ o, K.lookup a = some o ∧ o.cls = .type "tuple" ∧ o.dict = none := by
  unfold tupB at h
  split at h
  · rename_i o e
    obtain ⟨h1, h2⟩ := Bool.and_eq_true_iff.mp h
    refine ⟨o, e, ?_, Option.isNone_iff_eq_none.mp h2⟩
    split at h1
    · rename_i c ec; rw [ec, beq_iff_eq.mp h1]
    · cases h1
  · cases h
/-- sys.modules stands in the written part, a dict -/
def isDctO (o : Obj) : Bool := match o.data with
  | .dict _ _ => true
  | _ => false
def sysB (K : PySem.W.Frag) : Bool := match K.lookup sysModules with
  | some o => isDctO o
  | none => false
def basics : List String := ["NoneType", "bool", "int", "str", "list", "tuple", "dict"]
/-- what an own class must say, so that != and isinstance ask rightly -/
def ownB (K : PySem.W.Frag) (C : Addr) : Bool := decide (PySem.W.findIn K (.ref C) "__ne__" = some (some (.builtin "object.__ne__"))) && (decide (PySem.W.findIn K (.ref C) "__class__" = some (some (.builtin "object.__class__"))) &&
  (decide (PySem.W.specialIn K (.builtin "object.__class__") "__get__" = some (some (.builtin "getset_descriptor.__get__"))) && (decide (PySem.W.takesIn K (.builtin "object.__class__") = some true) && (decide (PySem.W.mroIn K C (.type "object") = some true) &&
  (decide (PySem.W.kitOne K (.ref C) (.ref C) = some true) && basics.all fun n => decide (PySem.W.kitOne K (.type n) (.ref C) = some false))))))
/-- .. and that they mean it -/
structure GOk (g : G) (P : Program) (w : World) (mg : Str → Option Value) (base : Heap) (lev : Nat) : Prop where
  fns : ∀ f ∈ g.fns, ∃ fa fd ps gf, mg f.name = some (.ref fa) ∧ PySem.W.keepIn g.K (.ref fa) = true ∧ FnW P w g.K mg base (L2.CX P w) lev fa fd ps f.sp ∧ KBn g.K fd ps f.n f.ks gf f.arr
  cons : ∀ p ∈ g.cons, ∃ u, mg p.1 = some u ∧ RelV p.2 u
  blt : ∀ x ∈ g.blt, mg x = none
  mts : ∀ m ∈ g.mts, ∃ fa fd ps gf, Cls g.K m.cls ∧ Meth g.K m.cls m.name fa ∧ FnW P w g.K mg base (L2.CX P w) lev fa fd ps m.sp ∧ KBn g.K fd ps (m.n + 1) m.ks gf (fun vs zs => match vs with | v :: r => v :: m.arr r zs | [] => [])
  mks : ∀ m ∈ g.mks, ∃ fa fd ps gf, mg m.name = some (.ref m.cls) ∧ Mk g.K m.cls fa ∧ FnW P w g.K mg base (L2.CX P w) lev fa fd ps m.sp ∧ KBn g.K fd ps (m.n + 1) m.ks gf (fun vs zs => match vs with | v :: r => v :: m.arr r zs | [] => [])
  ats : ∀ p ∈ g.ats, ∀ C ∈ p.2, Cls g.K C ∧ NoAttr g.K C p.1
  nes : ∀ p ∈ g.nes, ownB g.K p.2 = true
  nec : ∀ p ∈ g.nes, Cls g.K p.2
  sys : sysB g.K = true
  xcs : ∀ x ∈ g.xcs, ∃ b fI fd px, mg x.name = some (.ref x.C) ∧ XcC g.K b x.C ∧ XfC g.K x.C ∧ PySem.W.findIn g.K (.ref x.C) x.f = some none ∧ PySem.W.findIn g.K (.ref x.C) "__init__" = some (some (.ref fI)) ∧
    PySem.W.typeIn g.K (.ref fI) = some (.type "function") ∧ FnOk P w g.K mg base (L2.CX P w) 1 fI fd ["self", px] (spX b g.K x.f) ∧ Binds g.K fd ["self", px] []
  tps : ∀ p ∈ g.tps, ∃ a, mg p.1 = some (.ref a) ∧ kobj g.K a = some (.tup p.2) ∧ tupB g.K a = true
  hfs : ∀ f ∈ g.hfs, ∃ fa fd ps gf, mg f.name = some (.ref fa) ∧ PySem.W.keepIn g.K (.ref fa) = true ∧ FnHW P w g.K mg base (L2.CX P w) lev fa fd ps f.sp ∧ KBn g.K fd ps f.n f.ks gf f.arr

/-- where an expression is read -/
structure COk (g : G) (lev : Nat) (X : Cx) (N : List Str) (sc : Scope) (W : WX) : Prop where
  gok : GOk g X.prog X.w X.mg X.base lev
  hK : X.K = g.K
  hN : X.N = N
  hsc : X.env.scope = sc
  nd : X.N.Nodup
  calm : X.calm = true
  tk : Takes X W
  room : Room (lev + 1) X.A
  gd : X.A.guards = some []
  room2 : Room 2 X.A
/-- the same without what suites lack -/
structure BOk (g : G) (X : Cx) (N : List Str) (sc : Scope) : Prop where
  gok : ∃ lev, GOk g X.prog X.w X.mg X.base lev
  hK : X.K = g.K
  hN : X.N = N
  hsc : X.env.scope = sc
  nd : X.N.Nodup
  gd : X.A.guards = some []
  un : X.A.units + 200 < cLine
  room : ∃ lev, GOk g X.prog X.w X.mg X.base lev ∧ L2H.RoomH lev X.A
theorem COk.b {g : G} {lev : Nat} {X : Cx} {N : List Str} {sc : Scope} {W : WX} (c : COk g lev X N sc W) : BOk g X N sc := ⟨⟨lev, c.gok⟩, c.hK, c.hN, c.hsc, c.nd, c.gd, by have := c.room.un; omega, lev, c.gok, L2H.roomH_of (c.room.mono (Nat.le_succ _))⟩

theorem COk.hu {g : G} {lev : Nat} {X : Cx} {N : List Str} {sc : Scope} {W : WX} (c : COk g lev X N sc W) : X.A.units + 64 < cLine := c.room.units
theorem COk.hu1 {g : G} {lev : Nat} {X : Cx} {N : List Str} {sc : Scope} {W : WX} (c : COk g lev X N sc W) : X.A.units + 1 < cLine := hu_of c.room
theorem COk.room0 {g : G} {lev : Nat} {X : Cx} {N : List Str} {sc : Scope} {W : WX} (c : COk g lev X N sc W) : Room lev X.A := c.room.mono (Nat.le_succ _)

/-! ## 5. names -/
def ix? : List Str → Str → Option Nat
  | [], _ => none
  | y :: r, x => if decide (y = x) = true then some 0 else (ix? r x).map (· + 1)
theorem ix_get : ∀ {N : List Str} {x : Str} {i : Nat}, ix? N x = some i → N[i]? = some x
  | [], x, i, h => by cases h
  | y :: r, x, i, h => by
    unfold ix? at h
    split at h
    · rename_i e; cases h; simp [of_decide_eq_true e]
    · cases e : ix? r x with
      | none => rw [e] at h; cases h
      | some j => rw [e] at h; cases h; simpa using ix_get e
def plainName (x : Str) : Bool := !(x == ("__debug__" : Str)) && (!(x == ("__classdict__" : Str)) && !decide (x = "__name__"))
theorem plain_d {x : Str} (h : plainName x = true) : (x == ("__debug__" : Str)) = false := by unfold plainName at h; simp only [Bool.and_eq_true, Bool.not_eq_true'] at h; exact h.1
theorem plain_c {x : Str} (h : plainName x = true) : (x == ("__classdict__" : Str)) = false := by unfold plainName at h; simp only [Bool.and_eq_true, Bool.not_eq_true'] at h; exact h.2.1
theorem plain_n {x : Str} (h : plainName x = true) : x ≠ "__name__" := by unfold plainName at h; simp only [Bool.and_eq_true, Bool.not_eq_true', decide_eq_false_iff_not] at h; exact h.2.2

def cVar (i : Nat) : TE := fun σ H Q => match σ[i]? with
  | some (some v) => Q v H
  | _ => False
/-- the built-in classes as values -/
def bltTy (x : Str) : Option String := match bootBuiltins x with
  | some (.type n) => some n
  | _ => none
theorem bltTy_boot {x : Str} {n : String} (h : bltTy x = some n) : bootBuiltins x = some (.type n) := by
  unfold bltTy at h
  split at h
  · rename_i e; cases h; exact e
  · cases h
/-- a tuple that the text's top has written: untracked, wherever it stands -/
def cKT (K : PySem.W.Frag) (vs : List V) : TE := fun _ H Q => ∀ a, H a = none → kobj K a = some (.tup vs) → tupB K a = true → Q (.ref a) H
def tName (g : G) (N : List Str) (sc : Scope) (x : Str) : Option TE :=
  if plainName x = true then
    match sc.names.lookup x with
    | some .local | some .cell | some .free => (ix? N x).map cVar
    | some .globalImplicit => match g.cons.lookup x with
      | some v => some (tC v)
      | none => match g.tps.lookup x with
        | some vs => some (cKT g.K vs)
        | none => if x ∈ g.blt then (bltTy x).map fun n => tC (.ty n) else none
    | _ => none
  else none

section
variable {g : G} {lev : Nat} {X : Cx} {N : List Str} {sc : Scope} {W : WX}
theorem cVar_ok {i : Nat} {x : Str} {pos : Pos} (hN : X.N[i]? = some x) (hv : Vis X.env.scope x) (h1 : plainName x = true) : PE X (.Name x pos) (cVar i) :=
  PE_imp (pe_var hN hv (plain_d h1) (plain_c h1)) fun σ H Q q => by
    unfold cVar at q
    split at q
    · rename_i v e; exact ⟨v, e, q⟩
    · exact q.elim
theorem lookup_mem {α : Type} : ∀ {l : List (Str × α)} {x : Str} {v : α}, l.lookup x = some v → (x, v) ∈ l := fun h => PySem.mem_of_lookup h
theorem tName_ok {x : Str} {pos : Pos} {t : TE} (h : tName g N sc x = some t) (c : BOk g X N sc) : PE X (.Name x pos) t := by
  obtain ⟨lev, gok⟩ := c.gok
  unfold tName at h
  split at h
  · rename_i hp
    have vis : ∀ k, sc.names.lookup x = some k → (k = .local ∨ k = .cell ∨ k = .free) → (ix? N x).map cVar = some t → PE X (.Name x pos) t := fun k hk hkk h => by
      cases e : ix? N x with
      | none => rw [e] at h; cases h
      | some i =>
        rw [e] at h; cases h
        refine cVar_ok (by rw [c.hN]; exact ix_get e) ?_ hp
        unfold Vis
        rw [c.hsc, hk]
        rcases hkk with rfl | rfl | rfl <;> simp
    split at h
    · rename_i e; exact vis _ e (by simp) h
    · rename_i e; exact vis _ e (by simp) h
    · rename_i e; exact vis _ e (by simp) h
    · rename_i e
      have hg : Gl X x := by unfold Gl Env.kindOf; rw [c.hsc]; exact e
      split at h
      · rename_i v ev
        cases h
        obtain ⟨u, h1, h2⟩ := gok.cons _ (lookup_mem ev)
        exact pe_glob hg h1 h2 (plain_d hp)
      · split at h
        · rename_i vs ev
          cases h
          obtain ⟨a, h1, h2, h4⟩ := gok.tps _ (lookup_mem ev)
          refine ⟨fun pins s σ H Q I q => ?_⟩
          have ha : H a = none := by
            have h3 : kobj X.K a = some (.tup vs) := by rw [c.hK]; exact h2
            unfold kobj at h3
            split at h3
            · rename_i o e
              exact (I.bs _ o (I.ok.mod.kin _ _ e)).2
            · cases h3
          exact (pe_glob (v := .ref a) hg h1 rfl (plain_d hp)).run pins s σ H Q I (q a ha h2 h4)
        split at h
        · rename_i hb
          cases e2 : bltTy x with
          | none => rw [e2] at h; cases h
          | some n =>
            rw [e2] at h; cases h
            exact pe_bltn hg (gok.blt x hb) (bltTy_boot e2) (v := .ty n) rfl (plain_n hp) (plain_d hp)
        · cases h
    · cases h
  · cases h
end

/-! ## 6. argument lists -/
def notStar : Expr → Bool
  | .Starred _ _ => false
  | _ => true
theorem star_of {e : Expr} {es : List Expr} {env : Env} (h : notStar e = true) : starEach (e :: es) env = (false, eval e env) :: starEach es env := by
  cases e <;> first | rfl | exact absurd h Bool.false_ne_true
theorem star_all : ∀ {es : List Expr} {env : Env} {pos : Pos}, es.all notStar = true → (backTo pos (starEach es env)).any (·.1) = false
  | [], _, _, _ => rfl
  | e :: es, env, pos, h => by
    rw [List.all_cons, Bool.and_eq_true] at h
    rw [star_of h.1]
    show (false || (backTo pos (starEach es env)).any (·.1)) = false
    rw [star_all h.2]; rfl
theorem star_all' : ∀ {es : List Expr} {env : Env} {pos : Pos}, es.all notStar = true → (backTo pos (starEach es env)).all (fun x => !x.1) = true
  | [], _, _, _ => rfl
  | e :: es, env, pos, h => by
    rw [List.all_cons, Bool.and_eq_true] at h
    rw [star_of h.1]
    show (true && (backTo pos (starEach es env)).all (fun x => !x.1)) = true
    rw [star_all' h.2]; rfl
def kwNames : List Keyword → Option (List Str)
  | [] => some []
  | ⟨some x, _, _⟩ :: r => (kwNames r).map (x :: ·)
  | ⟨none, _, _⟩ :: _ => none
theorem kw_all : ∀ {kws : List Keyword} {ks : List Str} {env : Env} {pos : Pos}, kwNames kws = some ks →
    (backToKw pos (keywordEach kws env)).all (·.1.isSome) = true ∧ (backToKw pos (keywordEach kws env)).any (·.1.isNone) = false ∧ (backToKw pos (keywordEach kws env)).filterMap (·.1) = ks ∧ ks.length = kws.length
  | [], ks, _, _, h => by cases h; exact ⟨rfl, rfl, rfl, rfl⟩
  | ⟨some x, v, p⟩ :: r, ks, env, pos, h => by
    unfold kwNames at h
    cases e : kwNames r with
    | none => rw [e] at h; cases h
    | some l =>
      rw [e] at h; cases h
      obtain ⟨h1, h2, h3, h4⟩ := kw_all (env := env) (pos := pos) e
      refine ⟨?_, ?_, ?_, by simp [h4]⟩
      · show (true && (backToKw pos (keywordEach r env)).all (·.1.isSome)) = true
        rw [h1]; rfl
      · show (false || (backToKw pos (keywordEach r env)).any (·.1.isNone)) = false
        rw [h2]; rfl
      · show x :: (backToKw pos (keywordEach r env)).filterMap (·.1) = x :: l
        rw [h3]
  | ⟨none, _, _⟩ :: _, _, _, _, h => by cases h

/-! ## 7. calls of own defs -/
section
variable {X : Cx} {lev : Nat} {fa : Addr} {fd : FuncData} {ps ks : List Str} {sp : Sp} {x : Str} {n : Nat} {p pos apos : Pos} {es : List Expr} {kws : List Keyword} {t tk : TA} {gf : List Value → List Value → List Value} {arr : List V → List V → List V} {W : WX}
theorem run_own {pins : List (Addr × Obj)} {σ : St} {H : Hp} {s : Shared} {Q : VK} {us ws : List Value} {vs zs : List V} (F : FnW X.prog X.w X.K X.mg X.base (L2.CX X.prog X.w) lev fa fd ps sp) (hr : Room lev X.A) (gd : X.A.guards = some []) (hb : KBn X.K fd ps n ks gf arr) (tkx : Takes X W)
    (I : Inv X pins σ H s) (r : Vals vs us) (rz : Vals zs ws) (l1 : vs.length = n) (l2 : zs.length = ks.length) (h : sp (arr vs zs) H Q (fun cls d H' => W cls d σ H')) : wpAny (model X.prog X.w) X.A (call (.ref fa) us (ks.zip ws)) (EP X pins σ Q) X.xe s := by
  have r2 := hb.rel r rz
  refine wpAny_call (codeAny_mono (F.run X.A X.stack s H ⟨us, ks.zip ws⟩ (gf us ws) (arr vs zs) Q _ hr gd I.env0 (hb.to s us ws I.kIn (r.length.symm.trans l1) (rz.length.symm.trans l2)) r2 h) fun r s' hq => ?_)
  cases r with
  | error e => exact tkx e s' (XE.of_call I (fun _ _ _ h => h) hq)
  | ok fl =>
    cases fl with
    | ret u => exact I.after hq
    | next => exact False.elim hq
    | brk => exact False.elim hq
    | cont => exact False.elim hq
def cCall (sp : Sp) (n m : Nat) (arr : List V → List V → List V) (t tk : TA) (W : WX) : TE := fun σ H Q => t σ H fun vs H1 => tk σ H1 fun zs H2 => vs.length = n ∧ zs.length = m ∧ sp (arr vs zs) H2 Q (fun cls d H' => W cls d σ H')
/-- what is called keeps its arguments in a plain way -/
def Keeps (X : Cx) (f : Value) : Prop := ∀ h : Heap, X.K.In h → ∃ k, (k = Keeper.frame ∨ k = Keeper.machine ∨ k = Keeper.boundFrame) ∧ PySem.W.Looks (model X.prog X.w) h (keeperOf f) k
theorem keeps_ref {f : Value} (hk : PySem.W.keepIn X.K f = true) : Keeps X f := fun h k => PySem.W.keeps_K hk h k
theorem keeps_blt {id : String} : Keeps X (.builtin id) := fun h k => ⟨.machine, by simp, PySem.W.Looks.of_pure rfl⟩
theorem keeps_ty {T : String} : Keeps X (.type T) := fun h k => ⟨.machine, by simp, PySem.W.Looks.of_pure rfl⟩
/-- values of the arguments, then of the keywords, of any call -/
theorem args_of {f : Value} {first : List Value} {pins : List (Addr × Obj)} {s : Shared} {σ : St} {H : Hp} {Q : Value → Shared → Prop} {R : List V → List V → Hp → Prop}
    (hk : Keeps X f) (hnil : es = [] → t = tNil) (hstar : es.all notStar = true) (hkw : kwNames kws = some ks) (ha : PA X es t) (hw : PK X kws tk) (I : Inv X pins σ H s)
    (q : t σ H fun vs H1 => tk σ H1 fun zs H2 => R vs zs H2)
    (hf : ∀ vs zs us ws s2 H2, Inv X pins σ H2 s2 → Vals vs us → Vals zs ws → R vs zs H2 → wpAny (model X.prog X.w) X.A (call f (first ++ us) (ks.zip ws)) Q X.xe s2) :
    wpAny (model X.prog X.w) X.A (callWith pos f first (backTo pos (starEach es X.env)) (backToKw pos (keywordEach kws X.env))) Q X.xe s := by
  obtain ⟨k1, k2, k3, k4⟩ := kw_all (env := X.env) (pos := pos) hkw
  cases es with
  | nil =>
    refine PySem.W.callWith_of (P := X.K.In) (by rw [k2]; rfl) hk (PyProof.Rows.evalArgs_kw2_nil k1 ?_)
    rw [hnil rfl] at q
    refine thn (hw.run pos pins s σ H _ I q) fun ws s2 ⟨zs, H2, I2, rz, q2⟩ => ⟨I2.kIn, ?_⟩
    rw [k3]
    exact hf [] zs [] ws s2 H2 I2 .nil rz q2
  | cons e es =>
    rw [List.all_cons, Bool.and_eq_true] at hstar
    refine PySem.W.callWith_of (P := X.K.In) ?_ hk (PyProof.Rows.evalArgs_kw2 k1 ?_ (star_of hstar.1))
    rotate_left
    · refine thn (ha.run pos pins s σ H _ I q) fun us s1 ⟨vs, H1, I1, r, q1⟩ => ?_
      refine thn (hw.run pos pins s1 σ H1 _ I1 q1) fun ws s2 ⟨zs, H2, I2, rz, q2⟩ => ⟨I2.kIn, ?_⟩
      rw [k3]
      exact hf vs zs us ws s2 H2 I2 r rz q2
    · rw [k2, star_all (by rw [List.all_cons, hstar.1, hstar.2]; rfl)]; rfl

/-- f(..) -/
theorem pe_own (F : FnW X.prog X.w X.K X.mg X.base (L2.CX X.prog X.w) lev fa fd ps sp) (hr : Room lev X.A) (gd : X.A.guards = some []) (hb : KBn X.K fd ps n ks gf arr) (tkx : Takes X W) (hg : Gl X x) (hm : X.mg x = some (.ref fa)) (hk : PySem.W.keepIn X.K (.ref fa) = true)
    (hx : plainName x = true) (hnil : es = [] → t = tNil) (hstar : es.all notStar = true) (hkw : kwNames kws = some ks) (ha : PA X es t) (hw : PK X kws tk) : PE X (.Call (.Name x p) es kws pos) (cCall sp n ks.length arr t tk W) := by
  refine ⟨fun pins s σ H Q I h => ?_⟩
  refine wpAny_Call_Name_kw (ld_glob I hg hm ?_ (plain_d hx))
  refine args_of (first := []) (R := fun vs zs H2 => vs.length = n ∧ zs.length = ks.length ∧ sp (arr vs zs) H2 Q (fun cls d H' => W cls d σ H')) (keeps_ref hk) hnil hstar hkw ha hw I h fun vs zs us ws s2 H2 I2 r rz q => ?_
  exact run_own F hr gd hb tkx I2 r rz q.1 q.2.1 q.2.2
/-- .. while an exception is handled -/
theorem run_ownH {pins : List (Addr × Obj)} {σ : St} {H : Hp} {s : Shared} {Q : VK} {us ws : List Value} {vs zs : List V} (F : FnHW X.prog X.w X.K X.mg X.base (L2.CX X.prog X.w) lev fa fd ps sp) (hr : L2H.RoomH lev X.A) (gd : X.A.guards = some []) (hb : KBn X.K fd ps n ks gf arr) (tkx : Takes X W)
    (I : Inv X pins σ H s) (r : Vals vs us) (rz : Vals zs ws) (l1 : vs.length = n) (l2 : zs.length = ks.length) (h : sp (arr vs zs) H Q (fun cls d H' => W cls d σ H')) : wpAny (model X.prog X.w) X.A (call (.ref fa) us (ks.zip ws)) (EP X pins σ Q) X.xe s := by
  have r2 := hb.rel r rz
  refine wpAny_call (codeAny_mono (F.run X.A X.stack s H ⟨us, ks.zip ws⟩ (gf us ws) (arr vs zs) Q _ hr gd I.env0 (hb.to s us ws I.kIn (r.length.symm.trans l1) (rz.length.symm.trans l2)) r2 h) fun r s' hq => ?_)
  cases r with
  | error e => exact tkx e s' (XE.of_call I (fun _ _ _ h => h) hq)
  | ok fl =>
    cases fl with
    | ret u => exact I.after hq
    | next => exact False.elim hq
    | brk => exact False.elim hq
    | cont => exact False.elim hq
theorem pe_ownH (F : FnHW X.prog X.w X.K X.mg X.base (L2.CX X.prog X.w) lev fa fd ps sp) (hr : L2H.RoomH lev X.A) (gd : X.A.guards = some []) (hb : KBn X.K fd ps n ks gf arr) (tkx : Takes X W) (hg : Gl X x) (hm : X.mg x = some (.ref fa)) (hk : PySem.W.keepIn X.K (.ref fa) = true)
    (hx : plainName x = true) (hnil : es = [] → t = tNil) (hstar : es.all notStar = true) (hkw : kwNames kws = some ks) (ha : PA X es t) (hw : PK X kws tk) : PE X (.Call (.Name x p) es kws pos) (cCall sp n ks.length arr t tk W) := by
  refine ⟨fun pins s σ H Q I h => ?_⟩
  refine wpAny_Call_Name_kw (ld_glob I hg hm ?_ (plain_d hx))
  refine args_of (first := []) (R := fun vs zs H2 => vs.length = n ∧ zs.length = ks.length ∧ sp (arr vs zs) H2 Q (fun cls d H' => W cls d σ H')) (keeps_ref hk) hnil hstar hkw ha hw I h fun vs zs us ws s2 H2 I2 r rz q => ?_
  exact run_ownH F hr gd hb tkx I2 r rz q.1 q.2.1 q.2.2
end

/-! ## 8. method calls: any receiver -/
def baseOk : Expr → Bool
  | .Call (.Name _ _) [] [] _ => false
  | _ => true
theorem base_of {o : Expr} {a : Str} {env : Env} {w : Sem Value} (h : baseOk o = true) : attributeBase o a env w = w := by
  unfold attributeBase
  split
  · exact absurd h Bool.false_ne_true
  · rfl
section
variable {prog : Program} {w : World} {A : Around} {E : Value → Shared → Prop} {s : Shared}
theorem meth_gen {o : Expr} {name : Str} {apos pos : Pos} {es : List Expr} {kws : List Keyword} {ks : List Str} {env : Env} {Q : Value → Shared → Prop} (hb : baseOk o = true) (hstar : es.all notStar = true) (hkw : kwNames kws = some ks) (hfew : es.length + kws.length < 29)
    (hline : (apos.endLine == pos.line) = true)
    (h : wpAny (model prog w) A (eval o env) (fun ov s₁ => ∀ pl, wpAny (model prog w) A (getMethod ov name pl) (fun fx s₂ => wpAny (model prog w) A (callWith pos fx.1 fx.2 (backTo pos (starEach es env)) (backToKw pos (keywordEach kws env))) Q E s₂) E s₁) E s) :
    wpAny (model prog w) A (eval (.Call (.Attribute o name apos) es kws pos) env) Q E s := by
  rw [arm_eval_Call, base_of hb]
  refine wpAny_bind (wpAny_mono h (fun ov s₁ h₁ => ?_) fun _ _ e => e)
  refine wpAny_bind (wpAny_standAt ?_)
  obtain ⟨k1, k2, k3, k4⟩ := kw_all (env := env) (pos := pos) hkw
  have hform : methodCallForm (es.length + kws.length) (backTo pos (starEach es env)) (backToKw pos (keywordEach kws env)) = true := by
    unfold methodCallForm
    rw [star_all' hstar, k1]
    simp only [Bool.true_and, decide_eq_true_eq]
    split <;> omega
  have hpos : methodCallPos true o env apos pos = pure pos := by unfold methodCallPos; simp [hline]
  unfold methodCall
  rw [hform]
  refine wpAny_bind (wpAny_holding ?_)
  unfold calleeOf
  rw [if_pos rfl]
  refine wpAny_mono (h₁ _) (fun fx s₂ h₂ => ?_) fun _ _ e => e
  exact wpAny_bind (wpAny_of_eq hpos h₂)
end

/-! ### what a built-in's method does -/
/-- the methods of built-in types that are carried: type, name -/
structure BM where
  T : String
  name : Str
  id : String
  r : V → List V → Hp → VK → Prop
/-- .. rightly, where X is -/
structure BMOk (X : Cx) (b : BM) : Prop where
  pa : PlainAttrs b.T
  slot : Slot b.T b.name b.id
  ty : typeOf (.builtin b.id) = pure (.type "method_descriptor")
  run : MtR X b.id b.r
end WR

set_option Elab.async false
set_option linter.all false
set_option maxRecDepth 100000
set_option maxHeartbeats 4000000
namespace WR
open PySem PySem.Spec PyProof.Rows L2
open WRX (XB tailB)
section
variable {X : Cx} {pins : List (Addr × Obj)} {σ : St} {H : Hp} {s : Shared} {a C dx P : Addr} {f : Str} {y : V} {u : Value} {fs : List (Str × V)} {b : XB}
/-- the reading of B.__init__(self, ..) -/
def tXI (b : XB) (K : PySem.W.Frag) (ta : TA) : TE := fun σ H Q => ta σ H fun vs H1 => ∃ (a C : Addr) (ws : List V), vs = .ref a :: ws ∧ ws.length ≤ 1000 ∧ XcC K b C ∧ H1 a = some (exo a C none) ∧ Q .non H1
theorem handed_b (b : XB) : PySem.W.handedIn (.builtin b.ini) = true := by cases b <;> decide +kernel
theorem pe_xinit {B : Str} {p1 p2 pos : Pos} {es : List Expr} {ta : TA} (hg : Gl X B) (hx : plainName B = true) (hm : X.mg B = some (.ref P)) (R : XpC X.K b P) (hstar : es.all notStar = true) (hfew : es.length < 29) (hline : (p2.endLine == pos.line) = true) (hnil : es = [] → ta = tNil) (ha : PA X es ta) :
    PE X (.Call (.Attribute (.Name B p1) "__init__" p2) es [] pos) (tXI b X.K ta) := by
  refine ⟨fun pins s σ H Q I h => ?_⟩
  refine meth_gen (ks := []) rfl hstar rfl hfew hline (ld_glob I hg hm ?_ (plain_d hx))
  intro pl
  obtain ⟨r, e, rfl⟩ := R.ini
  refine PySem.W.method_cls I.kIn R.ga (PySem.W.cls_value I.kIn R.rd e (handed_b _) ?_)
  refine args_of (tk := tNil) (ks := []) (first := []) (R := fun vs zs H2 => zs = [] ∧ ∃ (a C : Addr) (ws : List V), vs = .ref a :: ws ∧ ws.length ≤ 1000 ∧ XcC X.K b C ∧ H2 a = some (exo a C none) ∧ Q .non H2) keeps_blt hnil hstar rfl ha pk_nil (I.tok _)
    (?_ : ta σ H fun vs H1 => tNil σ H1 fun zs H2 => zs = [] ∧ _) ?_
  · have e : (fun (vs : List V) (H1 : Hp) => tNil σ H1 fun zs H2 => zs = [] ∧ ∃ (a C : Addr) (ws : List V), vs = .ref a :: ws ∧ ws.length ≤ 1000 ∧ XcC X.K b C ∧ H2 a = some (exo a C none) ∧ Q .non H2) = fun vs H2 => ∃ (a C : Addr) (ws : List V), vs = .ref a :: ws ∧ ws.length ≤ 1000 ∧ XcC X.K b C ∧ H2 a = some (exo a C none) ∧ Q .non H2 := by
      funext vs H1
      exact propext ⟨fun z => z.2, fun z => ⟨rfl, z⟩⟩
    rw [e]
    exact h
  · rintro vs zs us ws s2 H2 I2 r rz ⟨rfl, a, C, ys, rfl, hl, T, ea, q⟩
    cases rz
    cases r with
    | @cons _ u0 _ ur ra rw' =>
      obtain rfl : u0 = Value.ref a := ra
      refine ox_init T I2 ea ?_ fun s' J => ⟨.non, H2, J, rfl, q⟩
      rw [← Paired.length rw', sizeLine_eq]
      omega
/-- the reading of self.f = e -/
def tXs (b : XB) (K : PySem.W.Frag) (f : Str) (to te : TE) : TS := fun D σ H => te σ H fun y H1 => to σ H1 fun x H2 => ∃ a C : Addr, x = .ref a ∧ XcC K b C ∧ PySem.W.findIn K (.ref C) f = some none ∧
  H2 a = some (exo a C none) ∧ ∀ dx, H2 dx = none → dx ≠ a → D.nx σ (upd (upd H2 dx (exd dx [(f, y)])) a (exo a C (some dx)))
theorem ps_xs {o e : Expr} {to te : TE} {p' pos : Pos} (ho : PE X o to) (he : PE X e te) (hs : swapsWith e (some (.Attribute o f p')) pos.line X.env = pure false) : PS X (.Assign [.Attribute o f p'] e pos) (tXs b X.K f to te) := by
  refine ⟨fun pins s σ H D I h => ?_⟩
  refine plainObj_wpAny_Assign_Attribute (thn (he.run pins s σ H _ I h) fun v s1 z1 => ?_) hs
  obtain ⟨y, H1, I1, r1, q1⟩ := z1
  refine thn (ho.run pins s1 σ H1 _ I1 q1) fun u s2 z2 => ?_
  obtain ⟨x, H2, I2, r2, a, C, rfl, T, hno, ea, q⟩ := z2
  obtain rfl : u = Value.ref a := r2
  exact ox_set T I2 ea hno r1 fun dx s' n ne J => ⟨σ, _, J, q dx n ne⟩
end

/-! ### the __init__ -/
/-- the body of such an __init__: the base's name, the field, what is stored -/
def xBody : List Stmt → Option (Str × Str × Str)
  | [.Expr (.Call (.Attribute (.Name B _) i p2) [.Name s _, .Constant (.str _) _ _] [] pos) _, .Assign [.Attribute (.Name s' _) f _] (.Name x _) _] =>
    if i = "__init__" ∧ s = "self" ∧ s' = "self" ∧ (p2.endLine == pos.line) = true then some (B, f, x) else none
  | _ => none
theorem xBody_ok {l : List Stmt} {B f x : Str} (h : xBody l = some (B, f, x)) : ∃ p1 p2 p3 m j p4 pos p5 p6 p7 p8 p9, l = [.Expr (.Call (.Attribute (.Name B p1) "__init__" p2) [.Name "self" p3, .Constant (.str m) j p4] [] pos) p5, .Assign [.Attribute (.Name "self" p6) f p7] (.Name x p8) p9] ∧ (p2.endLine == pos.line) = true := by
  unfold xBody at h
  split at h
  · split at h
    · rename_i hc
      obtain ⟨rfl, rfl, rfl, hl⟩ := hc
      cases h
      exact ⟨_, _, _, _, _, _, _, _, _, _, _, _, rfl, hl⟩
    · cases h
  · cases h
section
variable {Pr : Program} {w : World} {K : PySem.W.Frag} {mg : Str → Option Value} {base : Heap} {b : XB} {fI P : Addr} {fd : FuncData} {nm qual B f x : Str} {params : Arguments} {body : List Stmt} {scope : Scope} {dvs : List V} {kws : List (Str × V)}
theorem xinit_ok (F : FunD K nm qual params body scope dvs kws fI fd) (S : FnScope ["self", x] ["self", x] scope) (hb : xBody body = some (B, f, x)) (hx : plainName x = true) (hB : plainName B = true) (hsc : scope.names.lookup B = some .globalImplicit) (hm : mg B = some (.ref P)) (R : XpC K b P) :
    FnOk Pr w K mg base (L2.CX Pr w) 1 fI fd ["self", x] (spX b K f) := by
  obtain ⟨p1, p2, p3, m, j, p4, pos, p5, p6, p7, p8, p9, rfl, hl⟩ := xBody_ok hb
  refine F.ok (k := 0) S (fun vs H Q E z => ?_) fun cdv A outer s H vs Q E hr z => ?_
  · obtain ⟨a, y, C, rfl, _⟩ := z
    rfl
  obtain ⟨a, y, C, rfl, T, hno, ea, q⟩ := z
  have vis : ∀ n : Str, n ∈ (["self", x] : List Str) → Vis scope n := fun n hn => by
    unfold Vis
    rcases S.par n hn with z | z <;> rw [z] <;> simp
  have ix0 : (["self", x] : List Str)[0]? = some ("self" : Str) := rfl
  have ix1 : (["self", x] : List Str)[1]? = some x := rfl
  have self_ : ∀ p, PE (cxOf (L2.CX Pr w) Pr w K mg base ["self", x] qual scope fI cdv A outer s H E) (.Name "self" p) (cVar 0) := fun p => cVar_ok ix0 (vis _ (List.mem_cons_self ..)) (by decide)
  have x_ : ∀ p, PE (cxOf (L2.CX Pr w) Pr w K mg base ["self", x] qual scope fI cdv A outer s H E) (.Name x p) (cVar 1) := fun p => cVar_ok ix1 (vis _ (List.mem_cons_of_mem _ (List.mem_cons_self ..))) hx
  have c1 := pe_xinit (X := cxOf (L2.CX Pr w) Pr w K mg base ["self", x] qual scope fI cdv A outer s H E) (b := b) (P := P) (B := B) (p1 := p1) (p2 := p2) (pos := pos) (es := [.Name "self" p3, .Constant (.str m) j p4])
    hsc hB hm R rfl (by show 2 < 29; decide) hl (fun z => nomatch z) (pa_cons (self_ p3) (pa_cons (pe_str (x := m) (j := j) (pos := p4)) pa_nil (star_of rfl)) (star_of rfl))
  refine ⟨_, pss_cons (ps_expr c1 rfl) (pss_one (ps_xs (b := b) (f := f) (self_ p6) (x_ p8) rfl)), ?_⟩
  refine ⟨a, C, [.str m], rfl, (by show 1 ≤ 1000; decide), T, ea, ?_⟩
  refine ⟨a, C, rfl, T, hno, ea, fun dx n ne => ?_⟩
  exact q dx n ne
end
/-! ### C(e), to be raised -/
def tMkX (C : Addr) (f : Str) (te : TE) : St → Hp → XK → Prop := fun σ H Q => te σ H fun v H1 => ∀ d, H1 d = none → Q (.ref C) (some d) (upd H1 d (.xd [(f, v)]))
section
variable {X : Cx} {b : XB} {C fI : Addr} {fd : FuncData} {x f px : Str} {p pos : Pos} {e : Expr} {te : TE}
theorem xb_facts (b : XB) : ∃ ini bmB, ExcBaseFacts b.mk b.new ini bmB := WRX.xbase b
theorem pmk_x (T : XcC X.K b C) (hno : PySem.W.findIn X.K (.ref C) f = some none) (iC : PySem.W.findIn X.K (.ref C) "__init__" = some (some (.ref fI))) (tI : PySem.W.typeIn X.K (.ref fI) = some (.type "function"))
    (F1 : FnOk X.prog X.w X.K X.mg X.base (L2.CX X.prog X.w) 1 fI fd ["self", px] (spX b X.K f)) (hr : Room 2 X.A) (hb : Binds X.K fd ["self", px] []) (hg : Gl X x) (hx : plainName x = true) (hm : X.mg x = some (.ref C)) (hst : notStar e = true) (he : PE X e te) :
    PMk X (.Call (.Name x p) [e] [] pos) (tMkX C f te) := by
  intro pins s σ H Q I h
  obtain ⟨nm, q, N, bs, bm, sn, sub, ab, col, dd, k0, k1, k2, k3, k5, hC, hbm⟩ := T.cls
  obtain ⟨ini, bmB, F⟩ := xb_facts b
  have c1 : bm.contains (.type b.mk) = true := by
    rw [WRX.tail_has hbm]
    cases b <;> decide +kernel
  have c2 : bm.contains (.type "AttributeError") = false := by
    rw [WRX.tail_has hbm]
    cases b <;> decide +kernel
  have c3 : bm.contains (.type "NameError") = false := by
    rw [WRX.tail_has hbm]
    cases b <;> decide +kernel
  refine wpAny_Call_Name_kw (ld_glob I hg hm ?_ (plain_d hx))
  have hpl : (backTo pos (starEach ([] : List Expr) X.env)).any (·.1) = false := rfl
  refine PySem.W.callWith_K (h₀ := X.base) I.ok.mod.kin T.kC ?_ (star_of hst) hpl
  refine thn ((pa_cons he pa_nil (star_of hst)).run pos pins s σ H _ I (show tCons te tNil σ H fun vs H1 => ∃ v, vs = [v] ∧ ∀ d, H1 d = none → Q (.ref C) (some d) (upd H1 d (.xd [(f, v)])) from ?_)) fun us s1 z => ?_
  · have e0 : (fun (v : V) (H1 : Hp) => tNil σ H1 fun xs H2 => ∃ v', v :: xs = [v'] ∧ ∀ d, H2 d = none → Q (.ref C) (some d) (upd H2 d (.xd [(f, v')]))) = fun v H1 => ∀ d, H1 d = none → Q (.ref C) (some d) (upd H1 d (.xd [(f, v)])) := by
      funext v H1
      refine propext ⟨fun z => ?_, fun z => ⟨v, rfl, z⟩⟩
      obtain ⟨v', ev, z⟩ := z
      cases ev
      exact z
    show te σ H (fun v H1 => tNil σ H1 fun xs H2 => ∃ v', v :: xs = [v'] ∧ ∀ d, H2 d = none → Q (.ref C) (some d) (upd H2 d (.xd [(f, v')])))
    rw [e0]
    exact h
  obtain ⟨vs, H1, I1, r1, v, rfl, q1⟩ := z
  obtain ⟨u, rfl, ru⟩ := vals1 r1
  refine ⟨I1.kIn, ?_⟩
  show wpAny _ _ (call (.ref C) [u]) _ _ _
  obtain ⟨hp, g, dr, tk, os⟩ := s1
  have big : hp.objs.size ≤ hp.objs.size + 1 := Nat.le_succ _
  have fresh1 : H1 (hp.objs.size + 1) = none := I1.hok.fresh big
  have keep : ∀ c o, hp.get? c = some o → ((hp.push (PySem.W.kdv_tup [u])).push (PySem.HandSPX.excO C hp.objs.size)).get? c = some o := fun c o z => Heap.get?_push_of_some _ (Heap.get?_push_of_some _ z)
  have new_ : ((hp.push (PySem.W.kdv_tup [u])).push (PySem.HandSPX.excO C hp.objs.size)).get? (hp.objs.size + 1) = some (PySem.HandSPX.excO C hp.objs.size) := by heap_get
  have I2 : Inv X pins σ (upd H1 (hp.objs.size + 1) (exo (hp.objs.size + 1) C none)) ⟨(hp.push (PySem.W.kdv_tup [u])).push (PySem.HandSPX.excO C hp.objs.size), g, dr, tk, os⟩ :=
    I1.laid (t' := tk) (a := hp.objs.size + 1) (o := exo (hp.objs.size + 1) C none) (h' := (hp.push (PySem.W.kdv_tup [u])).push (PySem.HandSPX.excO C hp.objs.size)) keep big (exo_ok new_)
  have r2 : Vals [V.ref (hp.objs.size + 1), v] [Value.ref (hp.objs.size + 1), u] := .cons rfl (.cons ru .nil)
  have hq : spX b X.K f [V.ref (hp.objs.size + 1), v] (upd H1 (hp.objs.size + 1) (exo (hp.objs.size + 1) C none)) (fun z H2 => z = .non ∧ ∃ d, H2 (hp.objs.size + 1) = some (exo (hp.objs.size + 1) C (some d)) ∧ H2 d = some (exd d [(f, v)]) ∧ H1 d = none ∧ Q (.ref C) (some d) (upd (del H2 (hp.objs.size + 1)) d (.xd [(f, v)]))) (fun _ _ _ => False) := by
    refine ⟨_, _, C, rfl, T, hno, upd_same, fun dx n ne => ⟨rfl, dx, upd_same, ?_, ?_, ?_⟩⟩
    · rw [upd_ne ne, upd_same]
    · rw [upd_ne ne] at n
      exact n
    · rw [upd_ne ne] at n
      have same : upd (del (upd (upd (upd H1 (hp.objs.size + 1) (exo (hp.objs.size + 1) C none)) dx (exd dx [(f, v)])) (hp.objs.size + 1) (exo (hp.objs.size + 1) C (some dx))) (hp.objs.size + 1)) dx (.xd [(f, v)]) = upd H1 dx (.xd [(f, v)]) := by
        funext c
        by_cases z : c = dx
        · subst z
          rw [upd_same, upd_same]
        · rw [upd_ne z, upd_ne z]
          by_cases z2 : c = hp.objs.size + 1
          · subst z2
            rw [del_same, fresh1]
          · rw [del_ne z2, upd_ne z2, upd_ne z, upd_ne z2]
      rw [same]
      exact q1 dx n
  have hl : ([Value.ref (hp.objs.size + 1), u] ++ []).length = (["self", px] : List Str).length := rfl
  refine wpAny_call (WRX.xm_call F c1 c2 c3 (I1.kIn _ _ hC) (PySem.W.looks_findIn I1.kIn iC) (fun self => PySem.W.bind_fn I1.kIn self tI) (by show 1 ≤ _; rw [sizeLine_eq]; decide)
    (codeAny_mono (F1.run _ X.stack _ _ ⟨[Value.ref (hp.objs.size + 1), u], []⟩ [Value.ref (hp.objs.size + 1), u] _ _ (fun _ _ _ => False) (hr.make C [u] []) (I2.env0.make C [u] []) (by
      have z := hb _ [Value.ref (hp.objs.size + 1), u] I2.kIn hl
      rw [List.append_nil] at z
      exact z) r2 hq) fun r s' got => ?_))
  cases r with
  | error er => obtain ⟨_, _, _, _, _, _, _, _, _, _, _, _, z⟩ := got; exact z.elim
  | ok fl =>
    cases fl with
    | ret u' =>
      obtain ⟨z, H2, os2, bare2, un2, hok2, rv, rfl, d, ea, ed, hd1, q2⟩ := got
      obtain ⟨h2, g2, d2, t2, os'⟩ := s'
      exact ⟨rv, mk_end (raises_own T.exC T.tyC) I1 big keep un2 hok2 os2 bare2 ea ed hd1 q2⟩
    | next => exact False.elim got
    | brk => exact False.elim got
    | cont => exact False.elim got
end
end WR

set_option Elab.async false
set_option linter.all false
set_option maxRecDepth 100000
set_option maxHeartbeats 4000000
namespace WRE
open PySem PySem.W PySem.Calls PyProof.Rows
/-! ## isinstance of a caught exception that bears a dict -/
section
variable {P : Program} {w : World} {B : Around} {R : Value → Shared → Prop} {t : Shared} {F : Frag} {e C : Addr} {oe : Obj} {od : Option Obj}
theorem fo_any {nm : Str} {v u : Value} (k1 : (clsIn F C).isSome = true) (k2 : findIn F (.ref C) nm = some (some v)) (k3 : specialIn F v "__get__" = some (some u)) (k4 : takesIn F v = some true) : findObj F C od nm = some (.bind u v) := by
  obtain ⟨cd, k1⟩ := Option.isSome_iff_exists.mp k1
  unfold findObj; rw [k1]
  rw [Option.bind_some]; rw [k2]
  rw [Option.bind_some]; simp [k3, k4]
theorem xc_class {Q : Option Value → Shared → Prop} (c : L2.ExcC F C) (X : F.In t.heap) (I : InstAt t.heap e oe C od) (q : Q (some (.ref C)) { t with toks := t.toks + 1 }) : wpAny (model P w) B (getAttr? (.ref e) "__class__") Q R t := by
  have fo : findObj F C od "__class__" = some (.bind (.builtin "getset_descriptor.__get__") (.builtin "object.__class__")) := fo_any (by
    obtain ⟨cd, z, _⟩ := any_some c.hd; rw [z]; rfl) c.ha c.hn c.ht
  obtain ⟨hp, gs, dd, tk, os⟩ := t
  have T0 := I.type (M := model P w)
  have T1 := looks_findIn (M := model P w) X c.hg
  have T2 := looks_findIn (M := model P w) X c.hk
  have T3 := looks_find (M := model P w) X I fo
  have isB : Looks (model P w) hp (isInstance (.ref e) (.type "BaseException")) true := T0.andThen (looks_subIn X c.hs)
  have z0 : (false && onTheHeap (Value.builtin "BaseException.__getattribute__")) = false := rfl
  have z1 : (onTheHeap (Value.ref C) && Value.builtin "BaseException.__getattribute__" == Value.builtin "object.__getattribute__") = false := by
    rw [show (Value.builtin "BaseException.__getattribute__" == Value.builtin "object.__getattribute__") = false from by decide +kernel]; rfl
  unfold getAttr?; unfold getAttrBy?; unfold getAttrBy
  refine wpAny_bind (wpAny_mkText (wpAny_bind (wpAny_attempt (wpAny_holding (wpAny_bind (T0.at (wpAny_bind (T1.at ?_))))))))
  show wpAny _ _ (if (onTheHeap (Value.ref C) && Value.builtin "BaseException.__getattribute__" == Value.builtin "object.__getattribute__") = true then _ else _) _ _ _
  rw [z1]; rw [if_neg Bool.false_ne_true]
  unfold getAttrByItsOwn; unfold hookBefore
  refine wpAny_bind ?_; rw [if_pos (show onTheHeap (Value.ref C) = true from rfl)]
  refine T2.at ?_; refine wpAny_bind (wpAny_attempt (wpAny_holding ?_))
  unfold callGetattribute; rw [z0]; rw [if_neg Bool.false_ne_true]
  unfold boundAndCalled; rw [PySem.F.excAttr_ValueError.ga.bind (.ref e)]
  refine wpAny_bind (wpAny_pure ?_); show wpAny _ _ (call (.builtin "BaseException.__getattribute__") [.ref e, .str "__class__" tk]) _ _ _
  refine wpAny_call (codeAny_call_builtin PySem.F.excAttr_ValueError.ga.plain PySem.F.entry_bexc_ga ?_); refine @check_slot (model P w) _ _ ⟨hp, gs, dd, tk + 1, os⟩ "BaseException.__getattribute__" "BaseException" "__getattribute__" (.ref e) [.str "__class__" tk] [] _ (by decide +kernel) (by decide +kernel) isB (PySem.F.args_bexc_ga (.ref e) (.str "__class__" tk)) ?_
  unfold Builtin.«object.__getattribute__»; refine wpAny_bind (wpAny_of_eq (a := ((Value.ref e : Value), [Value.str "__class__" tk])) (by first | rfl | (simp only [slotArgs]; rfl)) ?_)
  refine wpAny_bind (wpAny_pure (wpAny_bind (T0.at (wpAny_bind (T3.at ?_)))))
  show wpAny _ _ (holding [Value.builtin "object.__class__"] (call (.builtin "getset_descriptor.__get__") [.builtin "object.__class__", .ref e, .ref C]) >>= ret) _ _ _
  refine wpAny_bind (wpAny_holding (wpAny_call (class_get (s := ⟨hp, gs, dd, tk + 1, os⟩) (ox := oe) (od := od) X I c.hm ?_)))
  refine wpAny_pure ?_; show wpAny _ _ (handedOut (.ref C)) _ _ _
  rw [handedOut_of (v := .ref C) rfl]
  first
    | exact wpAny_pure (wpAny_pure q)
    | exact wpAny_pure q
    | exact wpAny_pure (wpAny_bind (wpAny_pure (wpAny_pure q)))
theorem xc_kit (c : L2.ExcC F C) : KitX F (.ref e) (.ref C) (fun h => InstAt h e oe C od) where
  ty := fun _ _ _ I => I.type
  it := fun _ _ X _ => by
    obtain ⟨cd, z, _⟩ := any_some c.hd
    unfold clsIn at z; split at z
    · rename_i o1
      intro A' Q' E' s' k q
      unfold isType; unfold loadHead
      exact wpAny_bind (wpAny_loadPart (k _ _ (X _ _ o1)) (wpAny_pure q))
    · cases z
  ne := fun h tp dd its n sl X htp => by
    obtain ⟨cd, z, _⟩ := any_some c.hd
    refine Bool.eq_false_iff.mpr fun q => ?_
    have same : C = tp := Value.ref.inj (beq_iff_eq.mp q)
    subst same
    unfold clsIn at z; split at z
    · rename_i o1
      have bad := (X _ _ o1).symm.trans htp
      cases bad
    · cases z
  ca := fun X I k => xc_class c X I k
end
end WRE
namespace WR
open PySem PySem.Spec PyProof.Rows L2
def excB (K : PySem.W.Frag) (D : Addr) : Bool := decide (PySem.W.findIn K (.ref D) "__getattribute__" = some (some (.builtin "BaseException.__getattribute__"))) && (decide (PySem.W.findIn K (.ref D) "__getattr__" = some none) && (decide (PySem.W.subIn K (.ref D) (.type "BaseException") = some true) &&
  (PySem.W.hasDictIn K D && (decide (PySem.W.findIn K (.ref D) "__class__" = some (some (.builtin "object.__class__"))) && (decide (PySem.W.specialIn K (.builtin "object.__class__") "__get__" = some (some (.builtin "getset_descriptor.__get__"))) &&
  (decide (PySem.W.takesIn K (.builtin "object.__class__") = some true) && decide (PySem.W.mroIn K D (.type "object") = some true)))))))
theorem excB_ok {K : PySem.W.Frag} {D : Addr} (h : excB K D = true) : ExcC K D := by
  unfold excB at h
  simp only [Bool.and_eq_true, decide_eq_true_eq] at h
  obtain ⟨h1, h2, h3, h4, h5, h6, h7, h8⟩ := h
  exact ⟨h1, h2, h3, h4, h5, h6, h7, h8⟩
/-- isinstance(e, c), e the exception that the suite holds, its dict tracked -/
def rIsX (g : G) (a : Addr) (cls : Value) (d : Option Addr) : List V → Hp → VK → Prop := fun xs H Q => ∃ x ∈ g.xcs, ∃ (C' dd : Addr) (fs : List (Str × V)) (b : Bool), xs = [.ref a, .ref C'] ∧ cls = .ref x.C ∧ excB g.K x.C = true ∧ d = some dd ∧ H dd = some (.xd fs) ∧ PySem.W.kitOne g.K (.ref x.C) (.ref C') = some b ∧ Q (.bl b) H
theorem call_isX {g : G} {X : Cx} {a : Addr} {oe : Obj} {cls : Value} {d : Option Addr} {pn : List (Addr × Obj)} (hK : X.K = g.K) (hz : Zc cls d oe) (hf : ∃ vs, oe.data = .fields vs) : CallR (X.suite a ((a, oe) :: pn)) (.builtin "isinstance") (rIsX g a cls d) := by
  intro pins s σ H xs us Q I r h
  obtain ⟨x, hx, C', dd, fs, b, rfl, hc, hE, rfl, hd, e, q⟩ := h
  subst hc
  obtain ⟨u1, u2, rfl, r1, r2⟩ := vals2 r
  cases (show u1 = Value.ref a from r1)
  cases (show u2 = Value.ref C' from r2)
  obtain ⟨at_, _⟩ := I.pin (a, oe) (List.mem_append.mpr (.inl List.mem_cons_self))
  obtain ⟨vs, hv⟩ := hf
  obtain ⟨mA, ns, _⟩ := (show ObjOk X.prog X.w H s.heap dd (.xd fs) from I.hok dd _ hd)
  have there : ∃ o, s.heap.get? dd = some o := let ⟨o, _, _, z, _⟩ := ns; ⟨o, z⟩
  obtain ⟨o, ho⟩ := there
  have J : PySem.W.InstAt s.heap a oe x.C (some o) := by
    obtain ⟨oc, od, oda, osl⟩ := oe
    obtain ⟨h1, h2⟩ := hz
    dsimp only at h1 h2 hv
    subst h1 hv
    exact ⟨at_, rfl, rfl, by dsimp only; rw [h2]; exact ho⟩
  exact PySem.W.kia_one (WRE.xc_kit (excB_ok hE)) (by rw [← hK]; exact I.kIn) J e (fun z => nomatch z) fun tk => ⟨.bl b, H, I.kept (t' := tk) fun _ _ z => z, rfl, q⟩
end WR

set_option Elab.async false
set_option linter.all false
set_option maxRecDepth 100000
set_option maxHeartbeats 4000000
/-! x in range(..), x no whole number -/
namespace WR
open PySem PySem.Spec PyProof.Rows L2
theorem plain_rg_loop : plainId "range.__contains__.loop" = true := by decide +kernel
theorem entry_rg_loop : entryFor table "range.__contains__.loop" = some Builtin.«range.__contains__.loop» := entryFor_of_tree (by kernel_rfl)
theorem rg_loop (r : Addr) (a b : Int) (t u v : Tok) (x : Value) (k : Nat) : ∀ i : Nat, (b - a).toNat - i = k →
    Meets (Builtin.«range.__contains__.loop» ⟨[.ref r, x, rawInt i], []⟩) (fun A R s => s.heap.get? r = some { cls := .type "range", dict := none, data := .fields #[.int a t, .int b u, .int 1 v], slots := #[] } ∧ (∀ (j : Int) (tk : Tok) (s' : Shared), SeqAt.EqAt A.in1 s' (.int j tk) x false) ∧ ∀ tk, R (.ok (.ret (.bool false))) { s with toks := tk }) := by
  induction k with
  | zero =>
    intro i hk prog w A R s h
    obtain ⟨hp, g, d, tk, os⟩ := s; obtain ⟨hl, he, h⟩ := h
    wp_walk
    have : (i : Int) ≥ Builtin.Range.rangeSize a b 1 := by rw [rangeSize_one]; split <;> omega
    rw [if_pos this]
    wp_walk
    exact h _
  | succ k ih =>
    intro i hk prog w A R s h
    obtain ⟨hp, g, d, tk, os⟩ := s; obtain ⟨hl, he, h⟩ := h
    wp_walk
    have : ¬ (i : Int) ≥ Builtin.Range.rangeSize a b 1 := by rw [rangeSize_one]; split <;> omega
    rw [if_neg this]
    refine wpAny_bind (wpAny_mkInt ?_)
    refine wpAny_bind (he _ _ _ prog w _ _ ?_)
    wp_walk
    have hc : ((i : Int) + 1) = ((i + 1 : Nat) : Int) := by push_cast; rfl
    rw [hc]
    exact ⟨plainId_quiet plain_rg_loop _, codeAny_builtin entry_rg_loop (by
      rw [Around.under_plainId plain_rg_loop _]
      exact ih (i + 1) (by omega) prog w A R _ ⟨hl, he, fun tk => h tk⟩)⟩
theorem rg_cont (r : Addr) (a b : Int) (t u v : Tok) (x : Value) (hx : Builtin.Range.rangeExactInt? x = none) :
    Meets (Builtin.«range.__contains__» ⟨[.ref r, x], []⟩) (fun A R s => s.heap.get? r = some { cls := .type "range", dict := none, data := .fields #[.int a t, .int b u, .int 1 v], slots := #[] } ∧ (∀ (j : Int) (tk : Tok) (s' : Shared), SeqAt.EqAt A.in1 s' (.int j tk) x false) ∧ ∀ tk, R (.ok (.ret (.bool false))) { s with toks := tk }) := by
  intro prog w A R s h
  obtain ⟨hp, g, d, tk, os⟩ := s; obtain ⟨hl, he, h⟩ := h
  wp_walk
  rw [hx]
  wp_walk
  exact ⟨plainId_quiet plain_rg_loop _, codeAny_builtin entry_rg_loop (by
    rw [Around.under_plainId plain_rg_loop _]
    exact rg_loop r a b t u v x _ 0 rfl prog w A R _ ⟨hl, he, fun tk => h tk⟩)⟩
theorem rg_contB (r : Addr) (a b : Int) (t u v : Tok) (k : Bool) :
    Meets (Builtin.«range.__contains__» ⟨[.ref r, .bool k], []⟩) (fun _ R s => s.heap.get? r = some { cls := .type "range", dict := none, data := .fields #[.int a t, .int b u, .int 1 v], slots := #[] } ∧ R (.ok (.ret (.bool (Builtin.Range.rangePlace? a b 1 (if k then 1 else 0)).isSome))) s) :=
  .of_wp fun prog w A R s h => by obtain ⟨hp, g, d, tk, os⟩ := s; obtain ⟨hl, h⟩ := h; wp_walk; exact ⟨_, rfl, h⟩
/-- what x in range(lo, hi) tells -/
def inRg (x : V) (lo hi : Int) : Option Bool := match x with
  | .int i => some (decide (lo ≤ i ∧ i < hi))
  | .bl k => some (decide (lo ≤ (if k then 1 else 0) ∧ (if k then (1 : Int) else 0) < hi))
  | .non => some false
  | .str _ => some false
  | _ => none
section
variable {X : Cx}
theorem rg_at {A : Around} {s : Shared} {r : Addr} {lo hi : Int} {t1 t2 t3 : Tok} {x : V} {v : Value} {b : Bool} {prog : Program} {w : World} {E : Value → Shared → Prop} {Q : Bool → Shared → Prop} (ho : s.heap.get? r = some { cls := .type "range", dict := none, data := .fields #[.int lo t1, .int hi t2, .int 1 t3], slots := #[] }) (rx : RelV x v) (h : inRg x lo hi = some b) (q : ∀ tk, Q b { s with toks := tk }) :
    wpAny (model prog w) A (contains (.ref r) v) Q E s := by
  cases x with
  | int i =>
    obtain ⟨k, rfl⟩ := rx
    cases h
    refine wpAny_contains_slot (T := "range") ⟨_, ho, rfl⟩ F.slot_range_contains (call_meets F.slot_range_contains ⟨_, ho, rfl⟩ F.entry_range_contains (F.args_range_contains_2 _ _) (q_contains r lo hi i t1 t2 t3 k) ⟨ho, wpAny_truthy_bool ?_⟩)
    rw [place1]; exact q s.toks
  | bl k =>
    obtain rfl : v = .bool k := rx
    cases h
    refine wpAny_contains_slot (T := "range") ⟨_, ho, rfl⟩ F.slot_range_contains (call_meets F.slot_range_contains ⟨_, ho, rfl⟩ F.entry_range_contains (F.args_range_contains_2 _ _) (rg_contB r lo hi t1 t2 t3 k) ⟨ho, wpAny_truthy_bool ?_⟩)
    rw [place1]; exact q s.toks
  | non =>
    obtain rfl : v = .none := rx
    cases h
    refine wpAny_contains_slot (T := "range") ⟨_, ho, rfl⟩ F.slot_range_contains (call_meets F.slot_range_contains ⟨_, ho, rfl⟩ F.entry_range_contains (F.args_range_contains_2 _ _) (rg_cont r lo hi t1 t2 t3 .none rfl) ⟨ho, fun j tk s' => ?_, fun tk => wpAny_truthy_bool (q tk)⟩)
    exact eqAt_V (y := .int j) (x := .non) ⟨tk, rfl⟩ rfl rfl rfl
  | str z =>
    obtain ⟨k, rfl⟩ := rx
    cases h
    refine wpAny_contains_slot (T := "range") ⟨_, ho, rfl⟩ F.slot_range_contains (call_meets F.slot_range_contains ⟨_, ho, rfl⟩ F.entry_range_contains (F.args_range_contains_2 _ _) (rg_cont r lo hi t1 t2 t3 (.str z k) rfl) ⟨ho, fun j tk s' => ?_, fun tk => wpAny_truthy_bool (q tk)⟩)
    exact eqAt_V (y := .int j) (x := .str z) ⟨tk, rfl⟩ ⟨k, rfl⟩ rfl rfl
  | _ => cases h
theorem rng_obj {pins : List (Addr × Obj)} {s : Shared} {σ : St} {H : Hp} {a : Addr} {lo hi : Int} (I : Inv X pins σ H s) (h : Rd H a (.rng lo hi)) : ∃ t1 t2 t3, s.heap.get? a = some { cls := .type "range", dict := none, data := .fields #[.int lo t1, .int hi t2, .int 1 t3], slots := #[] } := by
  rcases h with h | ⟨o, h⟩
  · exact I.hok a _ h
  · exact (I.hok a _ h).2
theorem op_in_rgA : OpR X (compareOp .In) (fun x y H Q => ∃ a lo hi b, y = V.ref a ∧ Rd H a (.rng lo hi) ∧ inRg x lo hi = some b ∧ Q (.bl b) H) := by
  intro pins s σ H x y v u Q I rx ry h
  obtain ⟨a, lo, hi, b, rfl, ha, hb, q⟩ := h
  obtain rfl : u = Value.ref a := ry
  obtain ⟨t1, t2, t3, ho⟩ := rng_obj I ha
  show wpAny _ _ (do return Value.bool (← contains (Value.ref a) v)) _ _ s
  exact wpAny_bind (rg_at ho rx hb fun tk => wpAny_pure ⟨.bl _, H, I.kept (t' := tk) fun _ _ e => e, rfl, q⟩)
theorem op_notIn_rgA : OpR X (compareOp .NotIn) (fun x y H Q => ∃ a lo hi b, y = V.ref a ∧ Rd H a (.rng lo hi) ∧ inRg x lo hi = some b ∧ Q (.bl (!b)) H) := by
  intro pins s σ H x y v u Q I rx ry h
  obtain ⟨a, lo, hi, b, rfl, ha, hb, q⟩ := h
  obtain rfl : u = Value.ref a := ry
  obtain ⟨t1, t2, t3, ho⟩ := rng_obj I ha
  show wpAny _ _ (do return Value.bool (!(← contains (Value.ref a) v))) _ _ s
  exact wpAny_bind (rg_at ho rx hb fun tk => wpAny_pure ⟨.bl _, H, I.kept (t' := tk) fun _ _ e => e, rfl, q⟩)
/-- list(r), r a range -/
theorem call_list_rng (hc : X.calm = true) : CallR X (.type "list") (fun xs H Q => ∃ a lo hi, xs = [V.ref a] ∧ Rd H a (.rng lo hi) ∧ RgOk lo hi ∧ ∀ q, H q = none → Q (.ref q) (upd H q (.lst (rgV lo hi)))) := by
  intro pins s σ H xs us Q I r h
  obtain ⟨a, lo, hi, rfl, ha, ⟨b1, b2, b3, b4, b5⟩, q⟩ := h
  rw [Vals.ref1 r]
  obtain ⟨t1, t2, t3, ho⟩ := rng_obj I ha
  refine call_list_range (n := (hi - lo).toNat) (I.ok.hd hc) ho (small_one b1 b2 b3 b4) (rangeSize_nat lo hi) b5 fun h' tk acc c' hk e' hii => ?_
  refine ⟨.ref s.heap.objs.size, upd H s.heap.objs.size (.lst (rgV lo hi)), I.laid hk (Nat.le_refl _) (show ObjOk X.prog X.w _ _ _ (.lst (rgV lo hi)) from ⟨?_, acc.toList, c', vals_rg hii, ?_⟩), rfl, q _ (I.hok.fresh (Nat.le_refl _))⟩
  · rw [rgV_length, sizeLine_eq]; omega
  · rw [Array.toArray_toList]; exact e'
end
end WR

set_option Elab.async false
set_option linter.all false
set_option maxRecDepth 100000
set_option maxHeartbeats 4000000
namespace WR
open PySem PySem.Spec PyProof.Rows L2

/-! ## 9. subscripts, slices, in -/
def keyOf : V → Option Key
  | .int i => some (.inl i)
  | .str s => some (.inr s)
  | _ => none
theorem keyOf_kV {y : V} {k : Key} (h : keyOf y = some k) : y = kV k := by
  cases y <;> cases h <;> rfl
/-- a dict's look at a key -/
def oGet (H : Hp) (p : Addr) (y : V) (R : Option V → Prop) : Prop := match H p with
  | some (.dK kvs) | some (.frz _ (.dK kvs)) => (match keyOf y with
      | some k => R (valV kvs k)
      | none => False)
  | some (.dT kvs) | some (.frz _ (.dT kvs)) => ∃ k b, y = .ref b ∧ H b = some (.tup (k.map kV)) ∧ R (valV kvs k)
  | _ => False
theorem oGet_dget {H : Hp} {p : Addr} {y : V} {R : Option V → Prop} (h : oGet H p y R) : ∃ o, DGet H p y o ∧ R o := by
  unfold oGet at h
  split at h
  · rename_i kvs e
    split at h
    · rename_i k ek
      exact ⟨_, .inl ⟨kvs, k, .inl e, keyOf_kV ek, rfl⟩, h⟩
    · exact h.elim
  · rename_i ob kvs e
    split at h
    · rename_i k ek
      exact ⟨_, .inl ⟨kvs, k, .inr ⟨ob, e⟩, keyOf_kV ek, rfl⟩, h⟩
    · exact h.elim
  · rename_i kvs e
    obtain ⟨k, b, rfl, eb, h⟩ := h
    exact ⟨_, .inr ⟨kvs, k, b, .inl e, rfl, eb, rfl⟩, h⟩
  · rename_i ob kvs e
    obtain ⟨k, b, rfl, eb, h⟩ := h
    exact ⟨_, .inr ⟨kvs, k, b, .inr ⟨ob, e⟩, rfl, eb, rfl⟩, h⟩
  · exact h.elim
def oIx (K : PySem.W.Frag) : R2 := fun x y H Q => match x with
  | .ref p => (match look K H p with
    | some (.lst xs) => (match y with
        | .int i => (match atI xs i with
            | some v => Q v H
            | none => False)
        | _ => False)
    | some (.tup xs) => (match y with
        | .int i => (match atI xs i with
            | some v => Q v H
            | none => False)
        | _ => False)
    | _ => oGet H p y fun o => match o with
        | some v => Q v H
        | none => False)
  | .str z => (match y with
    | .int i => z.length ≤ sizeLine ∧ (match atI z.cps.toList i with
        | some c => Q (.str ⟨#[c]⟩) H
        | none => False)
    | _ => False)
  | _ => False
theorem look_rng {K : PySem.W.Frag} {H : Hp} {a : Addr} {lo hi : Int} (h : look K H a = some (.rng lo hi)) : Rd H a (.rng lo hi) := by
  rcases look_rd h with r | ⟨_, r⟩
  · exact r
  · rcases kobj_no r with ⟨_, z⟩ | ⟨_, z⟩ <;> cases z
def oIn (K : PySem.W.Frag) (neg : Bool) : R2 := fun x y H Q => match y with
  | .str z => (match x with
    | .str s => (match s.cps.toList with
        | [c] => Q (.bl (neg ^^ decide (c ∈ z.cps.toList))) H
        | _ => Q (.bl (neg ^^ !(Builtin.Str.occurrences z s 0 z.length 1).isEmpty)) H)
    | _ => False)
  | .ref p => (match look K H p with
    | some (.lst xs) => (flatV x = true ∧ xs.all flatV = true ∧ Q (.bl (neg ^^ inV x xs)) H) ∨
        ∃ d ds, Dp K H x d ∧ Dp K H y (.list ds) ∧ SeqAt.shaped d = true ∧ SeqAt.shaped (.list ds) = true ∧ Q (.bl (neg ^^ ds.any fun z => PyData.eqv z d)) H
    | some (.tup xs) => flatV x = true ∧ xs.all flatV = true ∧ Q (.bl (neg ^^ inV x xs)) H
    | some (.rng lo hi) => (match inRg x lo hi with
      | some b => Q (.bl (neg ^^ b)) H
      | none => False)
    | _ => oGet H p x fun o => Q (.bl (neg ^^ o.isSome)) H)
  | _ => False
section
variable {X : Cx}
theorem ix_dict (hu : X.A.units + 1 < cLine) : IxR X (fun x y H Q => ∃ a v, x = .ref a ∧ DGet H a y (some v) ∧ Q v H) := by
  intro value slice pins s σ H x y v u Q I rx ry h hs
  obtain ⟨a, v', rfl, g, q⟩ := h
  cases rx
  exact tail_any (dict_typeIs I g) PySem.F.slot_dict_getitem.lookup (d_getItem hu I g ry fun w' s3 I3 rw' => ⟨v', H, I3, rw', q⟩) hs
theorem r_ix (hu : X.A.units + 1 < cLine) : IxR X (oIx X.K) := by
  intro value slice pins s σ H x y v u Q I rx ry h hs
  unfold oIx at h
  split at h
  · rename_i p
    split at h
    · rename_i xs e
      split at h
      · split at h
        · rename_i ea
          exact ix_seq value slice pins s σ H _ _ v u Q I rx ry (.inl ⟨_, _, _, _, rfl, rfl, look_lst e, ea, h⟩) hs
        · exact h.elim
      · exact h.elim
    · rename_i xs e
      split at h
      · split at h
        · rename_i ea
          exact ix_seq value slice pins s σ H _ _ v u Q I rx ry (.inr (.inl ⟨_, _, _, _, rfl, rfl, look_tup e, ea, h⟩)) hs
        · exact h.elim
      · exact h.elim
    · obtain ⟨o, g, h⟩ := oGet_dget h
      cases o with
      | none => exact h.elim
      | some w => exact ix_dict hu value slice pins s σ H _ _ v u Q I rx ry ⟨_, _, rfl, g, h⟩ hs
  · split at h
    · obtain ⟨hz, h⟩ := h
      split at h
      · rename_i ea
        exact ix_seq value slice pins s σ H _ _ v u Q I rx ry (.inr (.inr ⟨_, _, _, rfl, rfl, hz, ea, h⟩)) hs
      · exact h.elim
    · exact h.elim
  · exact h.elim
theorem xf (b : Bool) : (false ^^ b) = b := by cases b <;> rfl
theorem xt (b : Bool) : (true ^^ b) = !b := by cases b <;> rfl
theorem one_of {s : Str} {c : Nat} (h : s.cps.toList = [c]) : s = ⟨#[c]⟩ := by
  obtain ⟨cps⟩ := s
  have : cps = #[c] := by
    apply Array.ext'
    exact h
  subst this; rfl
theorem r_in (hu : X.A.units + 65 < cLine) : OpR X (compareOp .In) (oIn X.K false) := by
  intro pins s σ H x y v u Q I rx ry h
  unfold oIn at h
  split at h
  · split at h
    · split at h
      · rename_i c e
        rw [xf] at h
        rw [one_of e] at rx
        exact op_in_sign pins s σ H _ _ v u Q I rx ry ⟨_, _, rfl, rfl, h⟩
      · rw [xf] at h
        exact op_in_str pins s σ H _ _ v u Q I rx ry ⟨_, _, rfl, rfl, h⟩
    · exact h.elim
  · split at h
    · rename_i xs e
      rcases h with ⟨h1, h2, h⟩ | ⟨d, ds, h1, h2, h3, h4, h⟩
      · rw [xf] at h
        exact op_in_seq pins s σ H _ _ v u Q I rx ry ⟨_, _, rfl, .inl (look_lst e), h1, h2, h⟩
      · rw [xf] at h
        exact op_inD hu pins s σ H _ _ v u Q I rx ry ⟨d, ds, h1, h2, h3, h4, h⟩
    · rename_i xs e
      obtain ⟨h1, h2, h⟩ := h
      rw [xf] at h
      exact op_in_seq pins s σ H _ _ v u Q I rx ry ⟨_, _, rfl, .inr (look_tup e), h1, h2, h⟩
    · rename_i lo hi e
      split at h
      · rename_i b eb
        rw [xf] at h
        exact op_in_rgA pins s σ H _ _ v u Q I rx ry ⟨_, _, _, b, rfl, look_rng e, eb, h⟩
      · exact h.elim
    · obtain ⟨o, g, h⟩ := oGet_dget h
      rw [xf] at h
      cases ry
      exact d_in (by omega) I g rx fun s' I' => ⟨.bl _, H, I', rfl, h⟩
  · exact h.elim
theorem r_notin (hu : X.A.units + 65 < cLine) : OpR X (compareOp .NotIn) (oIn X.K true) := by
  intro pins s σ H x y v u Q I rx ry h
  unfold oIn at h
  split at h
  · split at h
    · split at h
      · rename_i c e
        rw [xt] at h
        rw [one_of e] at rx
        exact op_notIn_sign pins s σ H _ _ v u Q I rx ry ⟨_, _, rfl, rfl, h⟩
      · rw [xt] at h
        exact op_notin_str pins s σ H _ _ v u Q I rx ry ⟨_, _, rfl, rfl, h⟩
    · exact h.elim
  · split at h
    · rename_i xs e
      rcases h with ⟨h1, h2, h⟩ | ⟨d, ds, h1, h2, h3, h4, h⟩
      · rw [xt] at h
        exact op_notIn_seq pins s σ H _ _ v u Q I rx ry ⟨_, _, rfl, .inl (look_lst e), h1, h2, h⟩
      · rw [xt] at h
        exact op_notInD hu pins s σ H _ _ v u Q I rx ry ⟨d, ds, h1, h2, h3, h4, h⟩
    · rename_i xs e
      obtain ⟨h1, h2, h⟩ := h
      rw [xt] at h
      exact op_notIn_seq pins s σ H _ _ v u Q I rx ry ⟨_, _, rfl, .inr (look_tup e), h1, h2, h⟩
    · rename_i lo hi e
      split at h
      · rename_i b eb
        rw [xt] at h
        exact op_notIn_rgA pins s σ H _ _ v u Q I rx ry ⟨_, _, _, b, rfl, look_rng e, eb, h⟩
      · exact h.elim
    · obtain ⟨o, g, h⟩ := oGet_dget h
      rw [xt] at h
      cases ry
      exact d_notIn (by omega) I g rx fun s' I' => ⟨.bl _, H, I', rfl, h⟩
  · exact h.elim
/-- x[lo:hi] -/
def oSl (K : PySem.W.Frag) : V → Option Int → Option Int → Hp → VK → Prop := fun x lo hi H Q => match x with
  | .str z => z.length ≤ sizeLine ∧ Q (.str (cutS z lo hi)) H
  | .ref a => (match look K H a with
    | some (.lst xs) => ∀ p, H p = none → Q (.ref p) (upd H p (.lst (cutV xs lo hi)))
    | some (.tup xs) => (HT.sIx xs.length 0 lo = 0 ∧ HT.sIx xs.length xs.length hi = xs.length → Q (.ref a) H) ∧ (¬ (HT.sIx xs.length 0 lo = 0 ∧ HT.sIx xs.length xs.length hi = xs.length) → ∀ p, H p = none → Q (.ref p) (upd H p (.tup (cutV xs lo hi))))
    | _ => False)
  | _ => False
theorem r_sl : L2.SlR X (oSl X.K) := by
  intro pins s σ H x v vl vu lo hi sl Q I rx hs pl pu h
  unfold oSl at h
  split at h
  · exact sl_str pins s σ H _ v vl vu lo hi sl Q I rx hs pl pu ⟨_, rfl, h.1, h.2⟩
  · split at h
    · rename_i e
      exact sl_list pins s σ H _ v vl vu lo hi sl Q I rx hs pl pu ⟨_, _, rfl, look_lst e, h⟩
    · rename_i e
      exact sl_tupA pins s σ H _ v vl vu lo hi sl Q I rx hs pl pu ⟨_, _, rfl, look_tup e, h.1, h.2⟩
    · exact h.elim
  · exact h.elim
end

/-! ## 10. truth -/
def oTru (K : PySem.W.Frag) (x : V) (H : Hp) : Option Bool := match x with
  | .non => some false
  | .bl b => some b
  | .int i => some (i != 0)
  | .str y => if y.length ≤ sizeLine then some ((y.length : Int) != 0) else none
  | .ref p => (match look K H p with
    | some (.lst xs) => some (!xs.isEmpty)
    | some (.tup xs) => some (!xs.isEmpty)
    | _ => (match H p with
      | some (.dK kvs) => some (!kvs.isEmpty)
      | _ => none))
  | _ => none
theorem oTru_ok {K : PySem.W.Frag} {x : V} {H : Hp} {b : Bool} (h : oTru K x H = some b) : TruV K x H b := by
  unfold oTru at h
  split at h
  · cases h; exact rfl
  · cases h; exact rfl
  · cases h; exact rfl
  · split at h
    · rename_i hz; cases h; exact ⟨hz, rfl⟩
    · cases h
  · split at h
    · rename_i e; cases h; exact .inl ⟨_, look_lst e, rfl⟩
    · rename_i e; cases h; exact .inr (.inl ⟨_, look_tup e, rfl⟩)
    · split at h
      · rename_i e; cases h; exact .inr (.inr ⟨_, e, rfl⟩)
      · cases h
  · cases h
def cTru (K : PySem.W.Frag) (t : TE) : TT := fun σ H Q => t σ H fun x H1 => match oTru K x H1 with
  | some b => Q b H1
  | none => False

/-! ## 11. built-in functions -/
abbrev RC := List V → Hp → VK → Prop
def tyN (K : PySem.W.Frag) (H : Hp) (x : V) : Option String := match x with
  | .non => some "NoneType"
  | .bl _ => some "bool"
  | .int _ => some "int"
  | .str _ => some "str"
  | .ref p => (match look K H p with
    | some (.lst _) => some "list"
    | some (.tup _) => some "tuple"
    | some (.dK _) => some "dict"
    | _ => (match H p with
      | some (.dT _) => some "dict"
      | _ => none))
  | _ => none
theorem kobj_lstO {K : PySem.W.Frag} {a : Addr} {xs : List V} (h : kobj K a = some (.lst xs)) : ∃ o, K.lookup a = some o ∧ o.cls = .type "list" := by
  have z := kobj_lst (H := fun _ => none) h
  rcases z with z | ⟨o, its, n, e, c, _⟩
  · rcases z with z | ⟨_, z⟩ <;> cases z
  · exact ⟨o, e, c⟩
theorem kobj_tupO {K : PySem.W.Frag} {a : Addr} {xs : List V} (h : kobj K a = some (.tup xs)) : ∃ o, K.lookup a = some o ∧ o.cls = .type "tuple" := by
  have z := kobj_tup (H := fun _ => none) h
  rcases z with z | ⟨o, its, n, e, c, _⟩
  · rcases z with z | ⟨_, z⟩ <;> cases z
  · exact ⟨o, e, c⟩
theorem tyN_ok {K : PySem.W.Frag} {H : Hp} {x : V} {n : String} (h : tyN K H x = some n) : TyX K H x (.type n) := by
  unfold tyN at h
  split at h
  · cases h; exact .base .non
  · cases h; exact .base (.bl _)
  · cases h; exact .base (.int _)
  · cases h; exact .base (.str _)
  · split at h
    · rename_i e; cases h
      rcases look_rd e with (r | ⟨o, r⟩) | ⟨_, r⟩
      · exact .base (.lst r)
      · exact .base (.frz r)
      · obtain ⟨o, h1, h2⟩ := kobj_lstO r; exact .kList h1 h2
    · rename_i e; cases h
      rcases look_rd e with (r | ⟨o, r⟩) | ⟨_, r⟩
      · exact .base (.tup r)
      · exact .fTuple r
      · obtain ⟨o, h1, h2⟩ := kobj_tupO r; exact .kTuple h1 h2
    · rename_i e; cases h
      rcases look_dK e with r | ⟨o, r⟩
      · exact .base (.dK r)
      · exact .fDict r
    · split at h
      · rename_i e; cases h; exact .base (.dT e)
      · cases h
  · cases h
/-- isinstance(x, T), isinstance(x, (T, ..)), T built-in; of own classes by the written part -/
def allTy : List V → Option (List String)
  | [] => some []
  | .ty n :: r => (allTy r).map (n :: ·)
  | _ :: _ => none
def kitBs (n : String) : List String → Option Bool
  | [] => some false
  | T :: r => match kitB n T with
    | some true => some true
    | some false => kitBs n r
    | none => none
def bIsi (K : PySem.W.Frag) : RC := fun xs H Q => match xs with
  | [x, .ty T] => (match tyN K H x with
    | some n => (match kitB n T with
        | some b => Q (.bl b) H
        | none => False)
    | none => rIsi K xs H Q)
  | [x, .ref c] => (match H c with
    | some (.tup cs) => (match tyN K H x, allTy cs with
        | some n, some ts => (match kitBs n ts with
            | some b => Q (.bl b) H
            | none => False)
        | _, _ => rIsiT K xs H Q)
    | _ => rIsi K xs H Q)
  | _ => False
theorem allTy_cls : ∀ {cs : List V} {ts : List String}, allTy cs = some ts → Paired ClsV cs (ts.map Value.type)
  | [], ts, h => by cases h; exact .nil
  | c :: r, ts, h => by
    cases c <;> first | (simp only [allTy] at h; done) | skip
    all_goals try (cases h; done)
    rename_i n
    simp only [allTy] at h
    cases e : allTy r with
    | none => rw [e] at h; cases h
    | some l => rw [e] at h; cases h; exact .cons (.ty _) (allTy_cls e)
theorem kitBs_ok {K : PySem.W.Frag} {n : String} : ∀ {ts : List String} {b : Bool}, kitBs n ts = some b → PySem.W.kitAny K (.type n) (ts.map Value.type) = some b
  | [], b, h => by cases h; exact kitAny_nil
  | T :: r, b, h => by
    unfold kitBs at h
    split at h
    · rename_i e; cases h; exact kitAny_cons (kit_ty e) (fun z => nomatch z) fun _ => rfl
    · rename_i e; exact kitAny_cons (kit_ty e) (fun _ => kitBs_ok h) (fun z => nomatch z)
    · cases h
def bLen (K : PySem.W.Frag) : RC := fun xs H Q => match xs with
  | [.str y] => y.length ≤ sizeLine ∧ Q (.int y.length) H
  | [.ref p] => (match look K H p with
    | some (.lst ys) => Q (.int ys.length) H
    | some (.tup ys) => Q (.int ys.length) H
    | _ => (match H p with
      | some (.dK kvs) => Q (.int kvs.length) H
      | _ => False))
  | _ => False
def bAbs : RC := fun xs H Q => match xs with
  | [.int i] => Q (.int (if i < 0 then -i else i)) H
  | _ => False
def bMax : RC := fun xs H Q => match xs with
  | [.int i, .int j] => Q (.int (if j > i then j else i)) H
  | _ => False
def bMin : RC := fun xs H Q => match xs with
  | [.int i, .int j] => Q (.int (if j < i then j else i)) H
  | _ => False
def bOrd : RC := fun xs H Q => match xs with
  | [.str x] => x.length = 1 ∧ Q (.int (x.cps.getD 0 0 : Nat)) H
  | _ => False
def bInt : RC := fun xs H Q => match xs with
  | [.int i] => Q (.int i) H
  | [.bl k] => Q (.int (if k then 1 else 0)) H
  | [.str a] => a.length ≤ 640 ∧ (match PySem.intText? a with
    | some n => Q (.int n) H
    | none => False)
  | _ => False
def bStrOf : RC := fun xs H Q => match xs with
  | [.int i] => i.natAbs.log2 < 1920 ∧ Q (.str (toString i)) H
  | _ => False
def bAll (K : PySem.W.Frag) : RC := fun xs H Q => ∃ (a : Addr) (bs : List Bool), xs = [V.ref a] ∧ look K H a = some (.lst (bs.map V.bl)) ∧ Q (.bl (bs.all id)) H
def bAny (K : PySem.W.Frag) : RC := fun xs H Q => ∃ (a : Addr) (bs : List Bool), xs = [V.ref a] ∧ look K H a = some (.lst (bs.map V.bl)) ∧ Q (.bl (bs.any id)) H
def bSum (K : PySem.W.Frag) : RC := fun xs H Q => ∃ (a : Addr) (ns : List Int), xs = [V.ref a] ∧ look K H a = some (.lst (ns.map V.int)) ∧ Q (.int ns.sum) H
def bList (K : PySem.W.Frag) : RC := fun xs H Q => match xs with
  | [.ref p] => (match look K H p with
    | some (.lst ys) => ∀ l, H l = none → Q (.ref l) (upd H l (.lst ys))
    | some (.tup ys) => ∀ l, H l = none → Q (.ref l) (upd H l (.lst ys))
    | some (.dK kvs) => ∀ l, H l = none → Q (.ref l) (upd H l (.lst (kvs.map fun kv => kV kv.1)))
    | some (.rng lo hi) => RgOk lo hi ∧ ∀ l, H l = none → Q (.ref l) (upd H l (.lst (rgV lo hi)))
    | _ => False)
  | _ => False
/-- range(n), range(i, j) as a value -/
def bRng : RC := fun xs H Q => match xs with
  | [.int n] => ∀ p, H p = none → Q (.ref p) (upd H p (.rng 0 n))
  | [.int i, .int j] => ∀ p, H p = none → Q (.ref p) (upd H p (.rng i j))
  | _ => False
def bTuple (K : PySem.W.Frag) : RC := fun xs H Q => match xs with
  | [.ref p] => (match look K H p with
    | some (.lst ys) => ∀ l, H l = none → Q (.ref l) (upd H l (.tup ys))
    | some (.tup ys) => Q (.ref p) H
    | _ => False)
  | _ => False
def bDict (K : PySem.W.Frag) : RC := fun xs H Q => match xs with
  | [.ref p] => (match look K H p with
    | some (.dK kvs) => ∀ l, H l = none → Q (.ref l) (upd H l (.dK kvs))
    | some (.lst ys) => ∃ (ps : List Addr) (kvs : List (Key × V)), ys = ps.map V.ref ∧ Paired (fun p kv => SqT K H p [kV kv.1, kv.2]) ps kvs ∧ ∀ l, H l = none → Q (.ref l) (upd H l (.dK (mergeK [] kvs)))
    | _ => False)
  | _ => False
section
variable {X : Cx}
theorem b_isi : CallR X (.builtin "isinstance") (bIsi X.K) := by
  refine CallR_imp (call_isi.or call_isiT) fun xs H Q h => ?_
  unfold bIsi at h
  split at h
  · split at h
    · rename_i n e
      split at h
      · rename_i b eb
        exact .inl ⟨_, _, _, _, b, rfl, .ty _, tyN_ok e, kit_ty eb, h⟩
      · exact h.elim
    · exact .inl h
  · split at h
    · rename_i cs ec
      split at h
      · rename_i n ts e1 e2
        split at h
        · rename_i b eb
          exact .inr ⟨_, _, _, _, _, b, rfl, ec, allTy_cls e2, tyN_ok e1, kitBs_ok eb, h⟩
        · exact h.elim
      · exact .inr h
    · exact .inl h
  · exact h.elim
theorem b_len : CallR X (.builtin "len") (bLen X.K) := by
  refine CallR_imp (call_len.or call_lenD) fun xs H Q h => ?_
  unfold bLen at h
  split at h
  · exact .inl ⟨_, _, rfl, ⟨h.1, rfl⟩, h.2⟩
  · split at h
    · rename_i e; exact .inl ⟨_, _, rfl, .inl ⟨_, look_lst e, rfl⟩, h⟩
    · rename_i e; exact .inl ⟨_, _, rfl, .inr ⟨_, look_tup e, rfl⟩, h⟩
    · split at h
      · rename_i e; exact .inr ⟨_, _, rfl, e, h⟩
      · exact h.elim
  · exact h.elim
theorem b_abs : CallR X (.builtin "abs") bAbs := CallR_imp call_abs fun xs H Q h => by
  unfold bAbs at h; split at h
  · exact ⟨_, rfl, h⟩
  · exact h.elim
theorem b_max (hc : X.calm = true) : CallR X (.builtin "max") bMax := CallR_imp (call_max2 hc) fun xs H Q h => by
  unfold bMax at h; split at h
  · exact ⟨_, _, rfl, h⟩
  · exact h.elim
theorem b_min (hc : X.calm = true) : CallR X (.builtin "min") bMin := CallR_imp (call_min2 hc) fun xs H Q h => by
  unfold bMin at h; split at h
  · exact ⟨_, _, rfl, h⟩
  · exact h.elim
theorem b_ord : CallR X (.builtin "ord") bOrd := CallR_imp call_ord fun xs H Q h => by
  unfold bOrd at h; split at h
  · exact ⟨_, rfl, h.1, h.2⟩
  · exact h.elim
theorem b_int : CallR X (.type "int") bInt := CallR_imp (call_int1.or call_int_str) fun xs H Q h => by
  unfold bInt at h; split at h
  · exact .inl (.inl ⟨_, rfl, h⟩)
  · exact .inl (.inr ⟨_, rfl, h⟩)
  · obtain ⟨hz, h⟩ := h
    split at h
    · rename_i e; exact .inr ⟨_, _, rfl, e, hz, h⟩
    · exact h.elim
  · exact h.elim
theorem b_str : CallR X (.type "str") bStrOf := CallR_imp call_str_int fun xs H Q h => by
  unfold bStrOf at h; split at h
  · exact ⟨_, rfl, h.1, h.2⟩
  · exact h.elim
theorem b_all (hc : X.calm = true) : CallR X (.builtin "all") (bAll X.K) := CallR_imp (cr_all hc) fun xs H Q ⟨a, bs, e, l, q⟩ => ⟨a, bs, e, look_lst l, q⟩
theorem b_any (hc : X.calm = true) : CallR X (.builtin "any") (bAny X.K) := CallR_imp (cr_any hc) fun xs H Q ⟨a, bs, e, l, q⟩ => ⟨a, bs, e, look_lst l, q⟩
theorem b_sum (hc : X.calm = true) : CallR X (.builtin "sum") (bSum X.K) := CallR_imp (cr_sum hc) fun xs H Q ⟨a, bs, e, l, q⟩ => ⟨a, bs, e, look_lst l, q⟩
theorem b_list (hc : X.calm = true) : CallR X (.type "list") (bList X.K) := CallR_imp ((call_list_of.or (call_listD hc)).or (call_list_rng hc)) fun xs H Q h => by
  unfold bList at h
  split at h
  · split at h
    · rename_i e; exact .inl (.inl ⟨_, _, rfl, .inl (look_lst e), h⟩)
    · rename_i e; exact .inl (.inl ⟨_, _, rfl, .inr (look_tup e), h⟩)
    · rename_i e; exact .inl (.inr ⟨_, _, rfl, look_dK e, h⟩)
    · rename_i e; exact .inr ⟨_, _, _, rfl, look_rng e, h.1, h.2⟩
    · exact h.elim
  · exact h.elim
theorem b_rng : CallR X (.type "range") bRng := by
  intro pins s σ H xs us Q I r h
  unfold bRng at h
  split at h
  · obtain ⟨u1, rfl, ri⟩ := vals1 r
    obtain ⟨t, rfl⟩ := ri
    refine call_range_1 ⟨.ref s.heap.objs.size, upd H s.heap.objs.size (.rng 0 _), I.laid (t' := s.toks + 2) (fun b o e => Heap.get?_push_of_some _ e) (Nat.le_refl _) ?_, rfl, h _ (I.hok.fresh (Nat.le_refl _))⟩
    exact ⟨_, _, _, Heap.get?_push_size _ rfl⟩
  · exact cr_range2 pins s σ H _ us Q I r ⟨_, _, rfl, h⟩
  · exact h.elim
theorem b_tuple : CallR X (.type "tuple") (bTuple X.K) := CallR_imp call_tuple_of fun xs H Q h => by
  unfold bTuple at h
  split at h
  · split at h
    · rename_i e; exact ⟨_, _, rfl, .inl ⟨look_lst e, h⟩⟩
    · rename_i e; exact ⟨_, _, rfl, .inr ⟨look_tup e, h⟩⟩
    · exact h.elim
  · exact h.elim
theorem b_dict (hc : X.calm = true) : CallR X (.type "dict") (bDict X.K) := CallR_imp (call_dictD.or (call_dictP hc)) fun xs H Q h => by
  unfold bDict at h
  split at h
  · split at h
    · rename_i e; exact .inl ⟨_, _, rfl, look_dK e, h⟩
    · rename_i e
      obtain ⟨ps, kvs, rfl, hp, q⟩ := h
      exact .inr ⟨_, ps, kvs, rfl, look_lst e, hp, q⟩
    · exact h.elim
  · exact h.elim
end
end WR

set_option Elab.async false
set_option linter.all false
set_option maxRecDepth 100000
set_option maxHeartbeats 4000000
namespace WR
open PySem PySem.Spec PyProof.Rows L2

/-! ## 12. methods of built-in types -/
abbrev RM := V → List V → Hp → VK → Prop
def mAppend : RM := fun x vs H Q => match x, vs with
  | .ref l, [y] => (match H l with
    | some (.lst xs) => xs.length < sizeLine ∧ Q .non (upd H l (.lst (xs ++ [y])))
    | _ => False)
  | _, _ => False
def mExtend : RM := fun x vs H Q => match x, vs with
  | .ref l, [.ref b] => (match H l, H b with
    | some (.lst xs), some (.lst zs) => xs.length + zs.length ≤ sizeLine ∧ Q .non (upd H l (.lst (xs ++ zs)))
    | _, _ => False)
  | _, _ => False
def mPopL : RM := fun x vs H Q => match x, vs with
  | .ref l, [] => (match H l with
    | some (.lst xs) => (match xs[xs.length - 1]? with
        | some y => Q y (upd H l (.lst xs.dropLast))
        | none => False)
    | _ => False)
  | .ref l, [.int i] => (match H l with
    | some (.lst xs) => -(2 ^ 63) ≤ i ∧ i < 2 ^ 63 ∧ (match seqIndex? i xs.length with
        | some k => (match xs[k]? with
          | some y => Q y (upd H l (.lst (xs.eraseIdx k)))
          | none => False)
        | none => False)
    | _ => False)
  | _, _ => False
def mReverse : RM := fun x vs H Q => match x, vs with
  | .ref l, [] => (match H l with
    | some (.lst xs) => Q .non (upd H l (.lst xs.reverse))
    | _ => False)
  | _, _ => False
def mClearL : RM := fun x vs H Q => match x, vs with
  | .ref l, [] => (match H l with
    | some (.lst xs) => Q .non (upd H l (.lst []))
    | _ => False)
  | _, _ => False
def mInsert : RM := fun x vs H Q => match x, vs with
  | .ref l, [.int i, y] => (match H l with
    | some (.lst xs) => xs.length < sizeLine ∧ 0 ≤ i ∧ i < 2 ^ 63 ∧ Q .non (upd H l (.lst (xs.take i.toNat ++ [y] ++ xs.drop i.toNat)))
    | _ => False)
  | _, _ => False
def mIndexL (K : PySem.W.Frag) : RM := fun x vs H Q => match x, vs with
  | .ref l, [y] => (match look K H l with
    | some (.lst ys) => flatV y = true ∧ ys.all flatV = true ∧ ∃ (j : Nat) (z : V), ys[j]? = some z ∧ eqV z y = true ∧ (∀ (m : Nat) (z' : V), m < j → ys[m]? = some z' → eqV z' y = false) ∧ Q (.int (j : Nat)) H
    | _ => False)
  | _, _ => False
def mIndexT (K : PySem.W.Frag) : RM := fun x vs H Q => match x, vs with
  | .ref l, [.str z] => ∃ (ys : List Str) (j : Nat), look K H l = some (.tup (ys.map V.str)) ∧ ys[j]? = some z ∧ (∀ m, m < j → ys[m]? ≠ some z) ∧ Q (.int (j : Nat)) H
  | _, _ => False
/-- how often a truth is among truths -/
def mCountL (K : PySem.W.Frag) : RM := fun x vs H Q => match x, vs with
  | .ref l, [.bl k] => ∃ bs : List Bool, look K H l = some (.lst (bs.map V.bl)) ∧ Q (.int (bs.count k : Nat)) H
  | _, _ => False
def mGetD : RM := fun x vs H Q => match x, vs with
  | .ref a, [y] => oGet H a y fun o => Q (o.getD .non) H
  | .ref a, [y, d] => oGet H a y fun o => Q (o.getD d) H
  | _, _ => False
def mPopD : RM := fun x vs H Q => match x, vs with
  | .ref a, [y] => (match H a, keyOf y with
    | some (.dK kvs), some k => (match valV kvs k with
        | some v => Q v (upd H a (.dK (dropK kvs k)))
        | none => False)
    | _, _ => False)
  | .ref a, [y, d] => (match H a, keyOf y with
    | some (.dK kvs), some k => (match valV kvs k with
        | some v => Q v (upd H a (.dK (dropK kvs k)))
        | none => Q d H)
    | _, _ => False)
  | _, _ => False
def mClearD : RM := fun x vs H Q => match x, vs with
  | .ref a, [] => (match H a with
    | some (.dK kvs) => Q .non (upd H a (.dK []))
    | _ => False)
  | _, _ => False
def mJoin (K : PySem.W.Frag) : RM := fun x vs H Q => match x, vs with
  | .str a, [.ref p] => ∃ ys : List Str, (look K H p = some (.lst (ys.map V.str)) ∨ look K H p = some (.tup (ys.map V.str))) ∧ (ys.map (·.length)).sum + ys.length * a.length ≤ 16777216 ∧ Q (.str (Txt.join a ys)) H
  | _, _ => False
def mSplit : RM := fun x vs H Q => match x, vs with
  | .str a, [.str b] => (b.length == 0) = false ∧ a.length + 2 ≤ sizeLine ∧ ∀ p, H p = none → Q (.ref p) (upd H p (.lst ((Txt.split a b).map V.str)))
  | _, _ => False
def mPartition : RM := fun x vs H Q => match x, vs with
  | .str a, [.str b] => (b.length == 0) = false ∧ a.length ≤ sizeLine ∧ ∀ p, H p = none → Q (.ref p) (upd H p (.tup [.str (Txt.partition a b).1, .str (Txt.partition a b).2.1, .str (Txt.partition a b).2.2]))
  | _, _ => False
def mIndexS : RM := fun x vs H Q => match x, vs with
  | .str a, [.str b] => (match Builtin.Str.occurrences a b 0 a.length 1 with
    | i :: _ => Q (.int (i : Nat)) H
    | [] => False)
  | _, _ => False
def mEnds : RM := fun x vs H Q => match x, vs with
  | .str a, [.str b] => Q (.bl (Txt.endswith a b)) H
  | _, _ => False
def mCountS : RM := fun x vs H Q => match x, vs with
  | .str a, [.str b] => Q (.int (Txt.count a b)) H
  | _, _ => False
def mUpper : RM := fun x vs H Q => match x, vs with
  | .str a, [] => a.length ≤ 5592405 ∧ Q (.str (Txt.upper a)) H
  | _, _ => False
section
variable {X : Cx}
theorem m_append : MtR X "list.append" mAppend := MtR_imp mt_append fun x vs H Q h => by
  unfold mAppend at h; split at h
  · split at h
    · rename_i e; exact ⟨_, _, _, rfl, rfl, e, h.1, h.2⟩
    · exact h.elim
  · exact h.elim
theorem m_extend : MtR X "list.extend" mExtend := MtR_imp mt_extend fun x vs H Q h => by
  unfold mExtend at h; split at h
  · split at h
    · rename_i e f; exact ⟨_, _, _, _, rfl, rfl, e, f, h.1, h.2⟩
    · exact h.elim
  · exact h.elim
theorem m_popL : MtR X "list.pop" mPopL := MtR_imp (MtR.or mt_pop mt_popAt) fun x vs H Q h => by
  unfold mPopL at h; split at h
  · split at h
    · rename_i e
      split at h
      · rename_i f; exact .inl ⟨_, _, _, rfl, rfl, e, f, h⟩
      · exact h.elim
    · exact h.elim
  · split at h
    · rename_i e
      obtain ⟨h1, h2, h⟩ := h
      split at h
      · rename_i f
        split at h
        · rename_i g; exact .inr ⟨_, _, _, _, _, rfl, rfl, e, h1, h2, f, g, h⟩
        · exact h.elim
      · exact h.elim
    · exact h.elim
  · exact h.elim
theorem m_reverse : MtR X "list.reverse" mReverse := MtR_imp mt_reverse fun x vs H Q h => by
  unfold mReverse at h; split at h
  · split at h
    · rename_i e; exact ⟨_, _, rfl, rfl, e, h⟩
    · exact h.elim
  · exact h.elim
theorem m_clearL : MtR X "list.clear" mClearL := MtR_imp mt_clear fun x vs H Q h => by
  unfold mClearL at h; split at h
  · split at h
    · rename_i e; exact ⟨_, _, rfl, rfl, e, h⟩
    · exact h.elim
  · exact h.elim
theorem m_insert : MtR X "list.insert" mInsert := MtR_imp mt_insert fun x vs H Q h => by
  unfold mInsert at h; split at h
  · split at h
    · rename_i e; exact ⟨_, _, _, _, rfl, rfl, e, h.1, h.2.1, h.2.2.1, h.2.2.2⟩
    · exact h.elim
  · exact h.elim
theorem m_indexL : MtR X "list.index" (mIndexL X.K) := MtR_imp mt_index fun x vs H Q h => by
  unfold mIndexL at h; split at h
  · split at h
    · rename_i e
      obtain ⟨h1, h2, j, z, h3, h4, h5, q⟩ := h
      exact ⟨_, _, _, j, z, rfl, rfl, look_lst e, h1, h2, h3, h4, h5, q⟩
    · exact h.elim
  · exact h.elim
theorem m_indexT : MtR X "tuple.index" (mIndexT X.K) := MtR_imp mt_tup_index fun x vs H Q h => by
  unfold mIndexT at h; split at h
  · obtain ⟨ys, j, h1, h2, h3, q⟩ := h
    exact ⟨_, ys, _, j, rfl, rfl, look_tup h1, h2, h3, q⟩
  · exact h.elim
theorem dpAll_bools {K : PySem.W.Frag} {H : Hp} : ∀ bs : List Bool, DpAll K H (bs.map V.bl) (bs.map PyData.bool)
  | [] => .nil
  | b :: bs => .cons (.bl b) (dpAll_bools bs)
theorem countIn_bools (k : Bool) : ∀ bs : List Bool, countIn (.bool k) (bs.map PyData.bool) = ((bs.count k : Nat) : Int)
  | [] => rfl
  | b :: bs => by
    rw [List.map_cons, countIn, countIn_bools k bs, List.count_cons]
    simp only [same]
    cases b <;> cases k <;> simp <;> omega
theorem m_countL : MtR X "list.count" (mCountL X.K) := by
  intro pins s σ H x vs v us Q I rx rs h
  unfold mCountL at h
  split at h
  · obtain ⟨bs, e, q⟩ := h
    cases rx
    obtain ⟨u, rfl, ru⟩ := vals1 rs
    obtain rfl : u = Value.bool _ := ru
    obtain ⟨its, rv, p, hz⟩ := I.list (look_lst e)
    obtain ⟨as, ra⟩ := Dp.readsAll I _ _ its (dpAll_bools bs) rv
    refine count_list_bools p.isList ra (by rw [List.all_map]; exact List.all_eq_true.mpr fun b _ => rfl) ?_
    rw [countIn_bools]
    exact ⟨.int _, H, I.tok _, ⟨_, rfl⟩, q⟩
  · exact h.elim
theorem m_getD (hu : X.A.units + 1 < cLine) : MtR X "dict.get" mGetD := by
  intro pins s σ H x vs v us Q I rx rs h
  unfold mGetD at h
  split at h
  · obtain ⟨o, g, q⟩ := oGet_dget h
    cases rx
    obtain ⟨u, rfl, ru⟩ := vals1 rs
    exact d_get1 hu I g ru fun w' s' I' r' => ⟨_, H, I', r', q⟩
  · obtain ⟨o, g, q⟩ := oGet_dget h
    cases rx
    obtain ⟨u, u2, rfl, ru, ru2⟩ := vals2 rs
    exact d_get2 hu I g ru ru2 fun w' s' I' r' => ⟨_, H, I', r', q⟩
  · exact h.elim
theorem m_popD : MtR X "dict.pop" mPopD := by
  intro pins s σ H x vs v us Q I rx rs h
  unfold mPopD at h
  split at h
  · split at h
    · rename_i k e ek
      split at h
      · rename_i el
        cases rx
        obtain ⟨u, rfl, ru⟩ := vals1 rs
        rw [keyOf_kV ek] at ru
        exact d_pop (more := []) I e ru el (.inl rfl) fun w' s' I' r' => ⟨_, _, I', r', h⟩
      · exact h.elim
    · exact h.elim
  · split at h
    · rename_i k e ek
      cases rx
      obtain ⟨u, u2, rfl, ru, ru2⟩ := vals2 rs
      rw [keyOf_kV ek] at ru
      split at h
      · rename_i el
        exact d_pop I e ru el (.inr ⟨_, rfl⟩) fun w' s' I' r' => ⟨_, _, I', r', h⟩
      · rename_i el
        exact d_popD I e ru el fun s' I' => ⟨_, _, I', ru2, h⟩
    · exact h.elim
  · exact h.elim
theorem m_clearD : MtR X "dict.clear" mClearD := MtR_imp mtd_clear fun x vs H Q h => by
  unfold mClearD at h; split at h
  · split at h
    · rename_i e; exact ⟨_, _, rfl, rfl, e, h⟩
    · exact h.elim
  · exact h.elim
theorem m_join : MtR X "str.join" (mJoin X.K) := MtR_imp mt_join fun x vs H Q h => by
  unfold mJoin at h; split at h
  · obtain ⟨ys, e, hz, q⟩ := h
    exact ⟨_, _, ys, rfl, rfl, e.elim (fun e => .inl (look_lst e)) (fun e => .inr (look_tup e)), hz, q⟩
  · exact h.elim
theorem m_split : MtR X "str.split" mSplit := MtR_imp mt_split fun x vs H Q h => by
  unfold mSplit at h; split at h
  · exact ⟨_, _, rfl, rfl, h.1, h.2.1, h.2.2⟩
  · exact h.elim
theorem m_partition : MtR X "str.partition" mPartition := MtR_imp mt_partition fun x vs H Q h => by
  unfold mPartition at h; split at h
  · exact ⟨_, _, rfl, rfl, h.1, h.2.1, h.2.2⟩
  · exact h.elim
theorem m_indexS : MtR X "str.index" mIndexS := MtR_imp mt_sindex fun x vs H Q h => by
  unfold mIndexS at h; split at h
  · split at h
    · rename_i e; exact ⟨_, _, _, _, rfl, rfl, e, h⟩
    · exact h.elim
  · exact h.elim
theorem m_ends : MtR X "str.endswith" mEnds := MtR_imp mt_endswith fun x vs H Q h => by
  unfold mEnds at h; split at h
  · exact ⟨_, _, rfl, rfl, h⟩
  · exact h.elim
theorem m_countS : MtR X "str.count" mCountS := MtR_imp mt_count fun x vs H Q h => by
  unfold mCountS at h; split at h
  · exact ⟨_, _, rfl, rfl, h⟩
  · exact h.elim
theorem m_upper : MtR X "str.upper" mUpper := MtR_imp mt_upper fun x vs H Q h => by
  unfold mUpper at h; split at h
  · exact ⟨_, rfl, rfl, h.1, h.2⟩
  · exact h.elim
end
/-- the table -/
def bms (K : PySem.W.Frag) : List BM := [
  ⟨"list", "append", "list.append", mAppend⟩, ⟨"list", "extend", "list.extend", mExtend⟩, ⟨"list", "pop", "list.pop", mPopL⟩, ⟨"list", "reverse", "list.reverse", mReverse⟩, ⟨"list", "clear", "list.clear", mClearL⟩,
  ⟨"list", "insert", "list.insert", mInsert⟩, ⟨"list", "index", "list.index", mIndexL K⟩, ⟨"list", "count", "list.count", mCountL K⟩,
  ⟨"dict", "get", "dict.get", mGetD⟩, ⟨"dict", "pop", "dict.pop", mPopD⟩, ⟨"dict", "clear", "dict.clear", mClearD⟩,
  ⟨"str", "join", "str.join", mJoin K⟩, ⟨"str", "split", "str.split", mSplit⟩, ⟨"str", "partition", "str.partition", mPartition⟩, ⟨"str", "index", "str.index", mIndexS⟩, ⟨"str", "endswith", "str.endswith", mEnds⟩,
  ⟨"str", "count", "str.count", mCountS⟩, ⟨"str", "upper", "str.upper", mUpper⟩, ⟨"tuple", "index", "tuple.index", mIndexT K⟩]
theorem bms_ok {X : Cx} (hu : X.A.units + 1 < cLine) : ∀ b ∈ bms X.K, BMOk X b := by
  intro b hb
  simp only [bms, List.mem_cons, List.not_mem_nil, or_false] at hb
  rcases hb with rfl | rfl | rfl | rfl | rfl | rfl | rfl | rfl | rfl | rfl | rfl | rfl | rfl | rfl | rfl | rfl | rfl | rfl | rfl
  · exact ⟨PySem.F.plainAttrs_list, PySem.F.slot_list_append, PySem.F.type_list_append, m_append⟩
  · exact ⟨PySem.F.plainAttrs_list, PySem.F.slot_list_extend, PySem.F.type_list_extend, m_extend⟩
  · exact ⟨PySem.F.plainAttrs_list, PySem.F.slot_list_pop, PySem.F.type_list_pop, m_popL⟩
  · exact ⟨PySem.F.plainAttrs_list, PySem.F.slot_list_reverse, PySem.F.type_list_reverse, m_reverse⟩
  · exact ⟨PySem.F.plainAttrs_list, PySem.F.slot_list_clear, PySem.F.type_list_clear, m_clearL⟩
  · exact ⟨PySem.F.plainAttrs_list, PySem.F.slot_list_insert, PySem.F.type_list_insert, m_insert⟩
  · exact ⟨PySem.F.plainAttrs_list, PySem.F.slot_list_index, PySem.F.type_list_index, m_indexL⟩
  · exact ⟨PySem.F.plainAttrs_list, PySem.F.slot_list_count, PySem.F.type_list_count, m_countL⟩
  · exact ⟨PySem.F.plainAttrs_dict, PySem.F.slot_dict_get, PySem.F.type_dict_get, m_getD hu⟩
  · exact ⟨PySem.F.plainAttrs_dict, PySem.F.slot_dict_pop, PySem.F.type_dict_pop, m_popD⟩
  · exact ⟨PySem.F.plainAttrs_dict, PySem.F.slot_dict_clear, PySem.F.type_dict_clear, m_clearD⟩
  · exact ⟨PySem.F.plainAttrs_str, PySem.F.slot_str_join, PySem.F.type_str_join, m_join⟩
  · exact ⟨PySem.F.plainAttrs_str, PySem.F.slot_str_split, PySem.F.type_str_split, m_split⟩
  · exact ⟨PySem.F.plainAttrs_str, PySem.F.slot_str_partition, PySem.F.type_str_partition, m_partition⟩
  · exact ⟨PySem.F.plainAttrs_str, PySem.F.slot_str_index, PySem.F.type_str_index, m_indexS⟩
  · exact ⟨PySem.F.plainAttrs_str, PySem.F.slot_str_endswith, PySem.F.type_str_endswith, m_ends⟩
  · exact ⟨PySem.F.plainAttrs_str, PySem.F.slot_str_count, PySem.F.type_str_count, m_countS⟩
  · exact ⟨PySem.F.plainAttrs_str, PySem.F.slot_str_upper, PySem.F.type_str_upper, m_upper⟩
  · exact ⟨PySem.F.plainAttrs_tuple, PySem.F.slot_tuple_index, PySem.F.type_tuple_index, m_indexT⟩

/-! ## 13. a method's call, by what the receiver is -/
def tyB (K : PySem.W.Frag) (H : Hp) (x : V) : Option String := match x with
  | .str _ => some "str"
  | .ref p => (match look K H p with
    | some (.lst _) => some "list"
    | some (.tup _) => if tupB K p = true then some "tuple" else none
    | _ => (match H p with
      | some (.dK _) => some "dict"
      | some (.dT _) => some "dict"
      | some (.set _ _) => some "set"
      | _ => none))
  | _ => none
theorem tyB_ok {K : PySem.W.Frag} {H : Hp} {x : V} {T : String} (h : tyB K H x = some T) : tyV K T x H := by
  unfold tyB at h
  split at h
  · cases h; exact rfl
  · split at h
    · rename_i e; cases h; exact .inl ⟨rfl, _, look_lst e⟩
    · split at h
      · rename_i e; cases h; exact .inr (.inl ⟨rfl, tupB_ok e⟩)
      · cases h
    · split at h
      · rename_i e; cases h; exact .inr (.inr (.inl ⟨rfl, .inl ⟨_, e⟩⟩))
      · rename_i e; cases h; exact .inr (.inr (.inl ⟨rfl, .inr ⟨_, e⟩⟩))
      · rename_i e; cases h; exact .inr (.inr (.inr ⟨rfl, _, _, e⟩))
      · cases h
  · cases h
def insOf (H : Hp) (x : V) : Option (Addr × Addr × List (Str × V)) := match x with
  | .ref a => (match H a with
    | some (.ins C dx fs) => some (a, C, fs)
    | _ => none)
  | _ => none
theorem insOf_ok {H : Hp} {x : V} {a C : Addr} {fs : List (Str × V)} (h : insOf H x = some (a, C, fs)) : ∃ dx, x = .ref a ∧ H a = some (.ins C dx fs) := by
  unfold insOf at h
  split at h
  · split at h
    · rename_i e; cases h; exact ⟨_, rfl, e⟩
    · cases h
  · cases h
def cMeth (K : PySem.W.Frag) (m : Str) (n nk : Nat) (cands : List MtI) (bs : List BM) (ta : TE) (t tk : TA) (W : WX) : TE := fun σ H Q => ta σ H fun x H1 =>
  match insOf H1 x with
  | some (_, C, fs) => fs.lookup m = none ∧ ∃ c ∈ cands, c.cls = C ∧ t σ H1 fun vs H2 => tk σ H2 fun zs H3 => vs.length = n ∧ zs.length = nk ∧ c.sp (x :: c.arr vs zs) H3 Q (fun cls d H' => W cls d σ H')
  | none => (match tyB K H1 x with
    | some T => (match bs.find? (fun b => b.T == T) with
      | some b => nk = 0 ∧ t σ H1 fun vs H2 => b.r x vs H2 Q
      | none => False)
    | none => False)
section
variable {g : G} {lev : Nat} {X : Cx} {N : List Str} {sc : Scope} {W : WX}
theorem pe_methG {o : Expr} {m : Str} {apos pos : Pos} {es : List Expr} {kws : List Keyword} {ks : List Str} {ta : TE} {t tk : TA} {cands : List MtI} {bs : List BM} (c : COk g lev X N sc W) (hb : baseOk o = true) (hstar : es.all notStar = true) (hkw : kwNames kws = some ks)
    (hfew : es.length + kws.length < 29) (hline : (apos.endLine == pos.line) = true) (hc : ∀ i ∈ cands, i ∈ g.mts ∧ i.name = m ∧ i.n = es.length ∧ i.ks = ks) (hbs : ∀ b ∈ bs, BMOk X b ∧ b.name = m)
    (hnil : es = [] → t = tNil) (hknil : kws = [] → tk = tNil) (ho : PE X o ta) (ha : PA X es t) (hw : PK X kws tk) : PE X (.Call (.Attribute o m apos) es kws pos) (cMeth g.K m es.length ks.length cands bs ta t tk W) := by
  refine ⟨fun pins s σ H Q I h => ?_⟩
  refine meth_gen hb hstar hkw hfew hline (thn (ho.run pins s σ H _ I h) fun ov s1 ⟨x, H1, I1, rx, q1⟩ pl => ?_)
  dsimp only at q1
  split at q1
  · rename_i a C fs e
    obtain ⟨l, i, hi, hC, q1⟩ := q1
    obtain ⟨dx, rfl, ea⟩ := insOf_ok e
    obtain ⟨hm, hn, hnn, hks⟩ := hc i hi
    obtain ⟨fa, fd, ps, gf, cl, me, F, kb⟩ := c.gok.mts i hm
    rw [hC] at cl me
    rw [hn] at me
    rw [hnn, hks] at kb
    rw [← c.hK] at cl me F kb
    cases rx
    refine getmeth_ok I1 ea cl me l ?_
    refine args_of (first := [.ref a]) (R := fun vs zs H2 => vs.length = es.length ∧ zs.length = ks.length ∧ i.sp (.ref a :: i.arr vs zs) H2 Q (fun cls d H' => W cls d σ H')) (keeps_ref me.kp) hnil hstar hkw ha hw I1 q1 fun vs zs us ws s2 H2 I2 r rz q => ?_
    exact run_own (vs := .ref a :: vs) (us := .ref a :: us) F c.room0 c.gd kb c.tk I2 (.cons rfl r) rz (by rw [List.length_cons, q.1]) q.2.1 q.2.2
  · split at q1
    · rename_i T eT
      split at q1
      · rename_i b eb
        obtain ⟨hz, q1⟩ := q1
        have hbm : b ∈ bs := List.mem_of_find?_eq_some eb
        have hT : b.T = T := by have := List.find?_some eb; exact beq_iff_eq.mp this
        obtain ⟨ok, hn⟩ := hbs b hbm
        obtain ⟨h1, h2⟩ := tyV_is I1 rx (by rw [c.hK]; exact tyB_ok eT)
        have hkz : ks = [] := List.length_eq_zero_iff.mp hz
        subst hkz
        have hkws : kws = [] := by
          have := (kw_all (env := X.env) (pos := pos) hkw).2.2.2
          exact List.length_eq_zero_iff.mp this.symm
        subst hkws
        rw [hknil rfl] at hw
        refine getMethod_builtin (T := T) (id := b.id) h1 (hT ▸ ok.pa) (hn ▸ hT ▸ ok.slot) ok.ty h2 ?_
        refine args_of (tk := tNil) (ks := []) (first := [ov]) (R := fun vs zs H2 => zs = [] ∧ b.r x vs H2 Q) keeps_blt hnil hstar hkw ha hw I1 (?_ : t σ H1 fun vs H2 => tNil σ H2 fun zs H3 => zs = [] ∧ b.r x vs H3 Q) fun vs zs us ws s2 H2 I2 r rz q => ?_
        · have e : (fun (vs : List V) (H2 : Hp) => tNil σ H2 fun zs H3 => zs = [] ∧ b.r x vs H3 Q) = fun vs H2 => b.r x vs H2 Q := by
            funext vs H2
            exact propext ⟨fun z => z.2, fun z => ⟨rfl, z⟩⟩
          rw [e]
          exact q1
        · obtain ⟨rfl, q⟩ := q
          exact ok.run pins s2 σ H2 x vs ov us Q I2 rx r q
      · exact q1.elim
    · exact q1.elim
end
end WR

set_option Elab.async false
set_option linter.all false
set_option maxRecDepth 100000
set_option maxHeartbeats 4000000
namespace WR
open PySem PySem.Spec PyProof.Rows L2

theorem ownB_ok {K : PySem.W.Frag} {C : Addr} (h : ownB K C = true) : PySem.W.findIn K (.ref C) "__ne__" = some (some (.builtin "object.__ne__")) ∧ PySem.W.findIn K (.ref C) "__class__" = some (some (.builtin "object.__class__")) ∧
    PySem.W.specialIn K (.builtin "object.__class__") "__get__" = some (some (.builtin "getset_descriptor.__get__")) ∧ PySem.W.takesIn K (.builtin "object.__class__") = some true ∧ PySem.W.mroIn K C (.type "object") = some true ∧
    PySem.W.kitOne K (.ref C) (.ref C) = some true ∧ ∀ n ∈ basics, PySem.W.kitOne K (.type n) (.ref C) = some false := by
  unfold ownB at h
  simp only [Bool.and_eq_true, decide_eq_true_eq, List.all_eq_true] at h
  obtain ⟨h1, h2, h3, h4, h5, h6, h7⟩ := h
  exact ⟨h1, h2, h3, h4, h5, h6, h7⟩
/-! ## the text's own specials: len, ==, !=, str, bool of an own class's instances -/
/-! ## dicts compared deeply -/
inductive DpKv (K : PySem.W.Frag) (H : Hp) : List (Key × V) → List (Key × PyData) → Prop
  | nil : DpKv K H [] []
  | cons {k : Key} {v : V} {d : PyData} {kvs : List (Key × V)} {ds : List (Key × PyData)} (h : Dp K H v d) (s : SeqAt.shaped d = true) (r : DpKv K H kvs ds) : DpKv K H ((k, v) :: kvs) ((k, d) :: ds)
def dat (es : List (Key × PyData)) (k : Key) : Option PyData := (es.find? fun p => decide (p.1 = k)).map (·.2)
def eqKv (ds es : List (Key × PyData)) : Bool := ds.all fun p => match dat es p.1 with | some e => PyData.eqv p.2 e | none => false
theorem DpKv.len {K : PySem.W.Frag} {H : Hp} {ks : List (Key × V)} {ds : List (Key × PyData)} (h : DpKv K H ks ds) : ks.length = ds.length := by
  induction h with
  | nil => rfl
  | cons _ _ _ ih => simp [ih]
theorem DpKv.get {K : PySem.W.Frag} {H : Hp} {k : Key} {ks : List (Key × V)} {ds : List (Key × PyData)} (h : DpKv K H ks ds) : (valV ks k = none ∧ dat ds k = none) ∨ ∃ v d, valV ks k = some v ∧ dat ds k = some d ∧ Dp K H v d ∧ SeqAt.shaped d = true := by
  induction h with
  | nil => exact .inl ⟨rfl, rfl⟩
  | @cons k' v d kvs ds h s r ih =>
    by_cases e : k' = k
    · exact .inr ⟨v, d, valV_pos e, by simp [dat, e], h, s⟩
    · rw [valV_neg e]
      have : dat ((k', d) :: ds) k = dat ds k := by simp [dat, List.find?_cons, e]
      rw [this]; exact ih
theorem hits_deep {X : Cx} {pins : List (Addr × Obj)} {σ : St} {H : Hp} {s : Shared} {A : Around} {ls : List (Key × V)} {vb : List (Key × Value)} {es : List (Key × PyData)} (I : Inv X pins σ H s) (hu : A.in1.units + 64 < cLine) (rb : KV ls vb) (he : DpKv X.K H ls es) :
    ∀ {ks : List (Key × V)} {va : List (Key × Value)} {ds : List (Key × PyData)}, KV ks va → DpKv X.K H ks ds → PySem.W.KeqHits A.in1 s vb va (eqKv ds es) := by
  intro ks va ds ra hd
  induction hd generalizing va with
  | nil => cases ra; exact .nil
  | @cons k v d kvs ds h sh r ih =>
    cases ra with
    | @cons _ q _ vr h1 t =>
      obtain ⟨k', u⟩ := q
      obtain ⟨rfl, ru⟩ := h1
      have rl := rb.val k
      rcases he.get (k := k) with ⟨a, b⟩ | ⟨y, e, a, b, hy, se⟩
      · rw [a] at rl
        have hn : valueAt vb k = none := by
          cases q : valueAt vb k with
          | none => rfl
          | some w => rw [q] at rl; exact rl.elim
        have e : eqKv ((k, d) :: ds) es = false := by simp [eqKv, b]
        rw [e]
        exact .miss hn
      · rw [a] at rl
        obtain ⟨w, hw, rw'⟩ : ∃ w, valueAt vb k = some w ∧ RelV y w := by
          cases q : valueAt vb k with
          | none => rw [q] at rl; exact rl.elim
          | some w => rw [q] at rl; exact ⟨w, rfl, rl⟩
        have e1 : eqKv ((k, d) :: ds) es = (PyData.eqv d e && eqKv ds es) := by simp [eqKv, b]
        rw [e1]
        obtain ⟨as, r1⟩ := Dp.reads I d v u h ru
        obtain ⟨bs, r2⟩ := Dp.reads I e y w hy rw'
        exact .hit hw (PySem.W.keq_at r1 r2 sh se hu) (ih t)
def rEqDD (K : PySem.W.Frag) : R2 := fun x y H Q => ∃ a b ks ls ds es, x = .ref a ∧ y = .ref b ∧ H a = some (.dK ks) ∧ H b = some (.dK ls) ∧ DpKv K H ks ds ∧ DpKv K H ls es ∧ Q (.bl (ks.length == ls.length && eqKv ds es)) H
def rNeDD (K : PySem.W.Frag) : R2 := fun x y H Q => ∃ a b ks ls ds es, x = .ref a ∧ y = .ref b ∧ H a = some (.dK ks) ∧ H b = some (.dK ls) ∧ DpKv K H ks ds ∧ DpKv K H ls es ∧ Q (.bl (!(ks.length == ls.length && eqKv ds es))) H
theorem op_eqDD {X : Cx} (hu : X.A.units + 65 < cLine) : OpR X (compareOp .Eq) (rEqDD X.K) := by
  intro pins s σ H x y v u Q I rx ry h
  obtain ⟨a, b, ks, ls, ds, es, rfl, rfl, ea, eb, hd, he, q⟩ := h
  obtain rfl : v = Value.ref a := rx
  obtain rfl : u = Value.ref b := ry
  obtain ⟨_, ya, va, ra, da⟩ := (show ObjOk X.prog X.w H s.heap a (.dK ks) from I.hok a _ ea)
  obtain ⟨_, yb, vb, rb, db⟩ := (show ObjOk X.prog X.w H s.heap b (.dK ls) from I.hok b _ eb)
  refine PySem.W.keq_eq (knd := mixKind X.prog X.w) ya yb da db (by omega) (fun _ => hits_deep I (by show X.A.units + 1 + 64 < _; omega) rb he ra hd) ⟨.bl _, H, I, ?_, q⟩
  rw [ra.length, rb.length]
  rfl
theorem op_neDD {X : Cx} (hu : X.A.units + 65 < cLine) : OpR X (compareOp .NotEq) (rNeDD X.K) := by
  intro pins s σ H x y v u Q I rx ry h
  obtain ⟨a, b, ks, ls, ds, es, rfl, rfl, ea, eb, hd, he, q⟩ := h
  obtain rfl : v = Value.ref a := rx
  obtain rfl : u = Value.ref b := ry
  obtain ⟨_, ya, va, ra, da⟩ := (show ObjOk X.prog X.w H s.heap a (.dK ks) from I.hok a _ ea)
  obtain ⟨_, yb, vb, rb, db⟩ := (show ObjOk X.prog X.w H s.heap b (.dK ls) from I.hok b _ eb)
  refine PySem.W.keq_ne (knd := mixKind X.prog X.w) ya yb da db (by omega) (fun _ => hits_deep I (by show X.A.units + 1 + 64 < _; omega) rb he ra hd) ⟨.bl _, H, I, ?_, q⟩
  rw [ra.length, rb.length]
  rfl
/-- own methods that fit -/
def cands (g : G) (m : Str) (n : Nat) : List MtI := g.mts.filter fun i => decide (i.name = m) && (decide (i.n = n) && decide (i.ks = []))
theorem cands_ok {g : G} {m : Str} {n : Nat} {c : MtI} (h : c ∈ cands g m n) : c ∈ g.mts ∧ c.name = m ∧ c.n = n ∧ c.ks = [] := by
  unfold cands at h
  have := List.mem_filter.mp h
  simp only [Bool.and_eq_true, decide_eq_true_eq] at this
  exact ⟨this.1, this.2.1, this.2.2.1, this.2.2.2⟩
/-- what an own special of the class at C does with these values; no exception leaves it -/
def spc (g : G) (m : Str) (C : Addr) (x : V) (vs : List V) (H : Hp) (Q : VK) : Prop := ∃ c ∈ cands g m vs.length, c.cls = C ∧ c.sp (x :: c.arr vs []) H Q (fun _ _ _ => False)
def bLenG (g : G) : RC := fun xs H Q => match xs with
  | [x] => (match insOf H x with
    | some (_, C, _) => spc g "__len__" C x [] H fun v H' => match v with
        | .int n => (0 ≤ n ∧ n < 2 ^ 63) ∧ Q (.int n) H'
        | _ => False
    | none => bLen g.K xs H Q)
  | _ => False
def bStrG (g : G) : RC := fun xs H Q => match xs with
  | [x] => (match insOf H x with
    | some (_, C, _) => spc g "__str__" C x [] H fun v H' => match v with
        | .str y => Q (.str y) H'
        | _ => False
    | none => bStrOf xs H Q)
  | _ => False
def bBoolG (g : G) : RC := fun xs H Q => match xs with
  | [.int i] => Q (.bl (i != 0)) H
  | [.bl b] => Q (.bl b) H
  | [x] => (match insOf H x with
    | some (_, C, _) => (∃ cs, g.ats.lookup ("__bool__" : Str) = some cs ∧ C ∈ cs) ∧ spc g "__len__" C x [] H fun v H' => match v with
        | .int n => (0 ≤ n ∧ n < 2 ^ 63) ∧ Q (.bl (n != 0)) H'
        | _ => False
    | none => False)
  | _ => False
def eqOk (g : G) (C : Addr) (H : Hp) (y : V) : Prop := (tyN g.K H y).isSome = true ∨ ∃ b fs, insOf H y = some (b, C, fs)
def oEqG0 (g : G) : R2 := fun x y H Q => match insOf H x with
  | some (_, C, _) => eqOk g C H y ∧ spc g "__eq__" C x [y] H fun v H' => match v with
      | .bl b => Q (.bl b) H'
      | _ => False
  | none => oEq g.K x y H Q ∨ rEqDD g.K x y H Q
def oNeG (g : G) : R2 := fun x y H Q => match insOf H x with
  | some (_, C, _) => (∃ p ∈ g.nes, p.2 = C) ∧ eqOk g C H y ∧ spc g "__eq__" C x [y] H fun v H' => match v with
      | .bl b => Q (.bl (!b)) H'
      | _ => False
  | none => oNe g.K x y H Q ∨ rNeDD g.K x y H Q

section
variable {g : G} {lev : Nat} {X : Cx} {N : List Str} {sc : Scope} {W : WX}
theorem room_in3 {k : Nat} {A : Around} (r : Room (k + 1) A) : Room k A.in1.in1.in1 :=
  ⟨r.hd, by have := r.dp; show A.depth + 3 * k + 5 < _; omega, by have := r.un; show A.units + 1 + 1 + 1 + 16 * k + 200 < _; omega⟩
theorem room_in2 {k : Nat} {A : Around} (r : Room (k + 1) A) : Room k A.in1.in1 :=
  ⟨r.hd, by have := r.dp; show A.depth + 3 * k + 5 < _; omega, by have := r.un; show A.units + 1 + 1 + 16 * k + 200 < _; omega⟩
/-- an own def called somewhere below, no exception leaving it -/
theorem run_below {A : Around} {fa : Addr} {fd : FuncData} {ps : List Str} {sp : Sp} {n : Nat} {gf : List Value → List Value → List Value} {arr : List V → List V → List V} {pins : List (Addr × Obj)} {σ : St} {H : Hp} {s : Shared} {Q : VK} {us : List Value} {vs : List V}
    (hr : Room lev A) (gd : A.guards = some []) (hfr : A.frames = X.A.frames) (F : FnW X.prog X.w X.K X.mg X.base (L2.CX X.prog X.w) lev fa fd ps sp) (hb : KBn X.K fd ps n [] gf arr)
    (I : Inv X pins σ H s) (r : Vals vs us) (l1 : vs.length = n) (h : sp (arr vs []) H Q (fun _ _ _ => False)) {E : Value → Shared → Prop} : wpAny (model X.prog X.w) A (call (.ref fa) us) (EP X pins σ Q) E s := by
  have r2 := hb.rel r (zs := []) (ws := []) .nil
  have e0 : Env0 X.prog X.w X.K X.mg X.base A X.stack s H := by
    have e := I.env0
    exact ⟨by rw [hfr]; exact e.frames, e.mod, e.bs, e.bsz, e.funs, e.frf, e.hok, e.bare⟩
  refine wpAny_call (codeAny_mono (F.run A X.stack s H ⟨us, []⟩ (gf us []) (arr vs []) Q _ hr gd e0 (hb.to s us [] I.kIn (r.length.symm.trans l1) rfl) r2 h) fun r s' hq => ?_)
  cases r with
  | error e => obtain ⟨_, _, _, _, _, _, _, _, _, _, _, _, z⟩ := hq; exact z.elim
  | ok fl =>
    cases fl with
    | ret u => exact I.after hq
    | next => exact False.elim hq
    | brk => exact False.elim hq
    | cont => exact False.elim hq
/-- an own special's parts -/
theorem spc_get (c : COk g lev X N sc W) {m : Str} {C a : Addr} {vs : List V} {us : List Value} {H : Hp} {Q : VK} (h : spc g m C (.ref a) vs H Q) : ∃ fa, PySem.W.findIn X.K (.ref C) m = some (some (.ref fa)) ∧ PySem.W.isFn X.K (.ref fa) = true ∧ Cls X.K C ∧
    ∀ {A : Around} {pins : List (Addr × Obj)} {σ : St} {s : Shared} {E : Value → Shared → Prop}, Room lev A → A.guards = some [] → A.frames = X.A.frames → Inv X pins σ H s → Vals vs us → wpAny (model X.prog X.w) A (call (.ref fa) (.ref a :: us)) (EP X pins σ Q) E s := by
  obtain ⟨i, hi, hC, q⟩ := h
  obtain ⟨i1, i2, i3, i4⟩ := cands_ok hi
  obtain ⟨fa, fd, ps, gf, cl, me, F, kb⟩ := c.gok.mts i i1
  rw [hC] at cl me
  rw [i2] at me
  rw [i3, i4] at kb
  rw [← c.hK] at cl me F kb
  refine ⟨fa, me.at_, me.fn, cl, fun hr gd hf I r => ?_⟩
  exact run_below (vs := .ref a :: vs) hr gd hf F kb I (.cons rfl r) (by rw [List.length_cons]) q
theorem b_lenG (c : COk g lev X N sc W) (hl : CallR X (.builtin "len") (bLen g.K)) : CallR X (.builtin "len") (bLenG g) := by
  intro pins s σ H xs us Q I r h
  unfold bLenG at h
  split at h
  · rename_i x
    split at h
    · rename_i a C fs e
      obtain ⟨dx, rfl, ea⟩ := insOf_ok e
      obtain ⟨u, rfl, ru⟩ := vals1 r
      cases ru
      obtain ⟨fa, h1, h2, cl, run⟩ := spc_get (us := []) c h
      obtain ⟨mA, J, _⟩ := ins_get I.hok ea
      obtain ⟨od, J, _⟩ := J.look
      obtain ⟨m, hF⟩ := I.fr
      refine PySem.W.len_K hF I.ok.mod.kin J h1 h2 (wpAny_mono (run (c.room.in1) c.gd rfl I .nil) (fun u s' z => ?_) fun _ _ z => z)
      obtain ⟨v, H', I', rv, q⟩ := z
      cases v <;> first | exact q.elim | skip
      obtain ⟨t, rfl⟩ := rv
      exact ⟨q.1, ⟨.int _, H', I'.tok _, ⟨_, rfl⟩, q.2⟩⟩
    · exact hl pins s σ H _ us Q I r h
  · exact h.elim
theorem b_strG (c : COk g lev X N sc W) : CallR X (.type "str") (bStrG g) := by
  intro pins s σ H xs us Q I r h
  unfold bStrG at h
  split at h
  · rename_i x
    split at h
    · rename_i a C fs e
      obtain ⟨dx, rfl, ea⟩ := insOf_ok e
      obtain ⟨u, rfl, ru⟩ := vals1 r
      cases ru
      obtain ⟨fa, h1, h2, cl, run⟩ := spc_get (us := []) c h
      obtain ⟨mA, J, _⟩ := ins_get I.hok ea
      obtain ⟨od, J, _⟩ := J.look
      refine PySem.W.kso_call (by have := c.room.un; show X.A.units + 1 + 1 < _; omega) I.kIn J h1 h2 (wpAny_mono (run (room_in2 c.room) c.gd rfl I .nil) (fun u s' z => ?_) fun _ _ z => z)
      obtain ⟨v, H', I', rv, q⟩ := z
      cases v <;> first | exact q.elim | skip
      obtain ⟨t, rfl⟩ := rv
      exact ⟨.str _, H', I', ⟨_, rfl⟩, q⟩
    · exact b_str pins s σ H _ us Q I r h
  · exact h.elim
/-! ### == and != -/
theorem sub_no {K : PySem.W.Frag} {C : Addr} {n : String} {H : Hp} {x : V} (h : tyN K H x = some n) : PySem.W.notFirst K C (.type n) = true := by
  have key : ∀ m : String, m ∈ ["NoneType", "bool", "int", "str", "list", "tuple", "dict"] → PySem.W.notFirst K C (.type m) = true := by
    intro m hm
    simp only [List.mem_cons, List.not_mem_nil, or_false] at hm
    rcases hm with rfl | rfl | rfl | rfl | rfl | rfl | rfl <;> (first | rfl | kernel_rfl)
  refine key n ?_
  unfold tyN at h
  split at h
  all_goals try (cases h <;> simp)
  split at h
  all_goals try (cases h <;> simp)
  split at h <;> cases h <;> simp
theorem eq_looks {pins : List (Addr × Obj)} {σ : St} {H : Hp} {s : Shared} {C : Addr} {y : V} {v : Value} (c : COk g lev X N sc W) (I : Inv X pins σ H s) (ry : RelV y v) (h : eqOk g C H y) :
    ∃ tb, PySem.W.Looks (model X.prog X.w) s.heap (typeOf v) tb ∧ PySem.W.notFirst X.K C tb = true := by
  rcases h with h | ⟨b, fs, h⟩
  · cases e : tyN g.K H y with
    | none => rw [e] at h; cases h
    | some n =>
      have e2 := e
      rw [← c.hK] at e
      obtain ⟨P, Z, p, _⟩ := kit_of I ry (tyN_ok e)
      exact ⟨_, Z.ty _ _ I.kIn p, sub_no e⟩
  · obtain ⟨dx, rfl, ea⟩ := insOf_ok h
    cases ry
    obtain ⟨mA, J, _⟩ := ins_get I.hok ea
    obtain ⟨od, J, _⟩ := J.look
    exact ⟨_, J.type, by simp [PySem.W.notFirst]⟩
theorem r_eqG0 (c : COk g lev X N sc W) (ho : OpR X (compareOp .Eq) (oEq g.K)) : OpR X (compareOp .Eq) (oEqG0 g) := by
  intro pins s σ H x y v u Q I rx ry h
  unfold oEqG0 at h
  split at h
  · rename_i a C fs e
    obtain ⟨dx, rfl, ea⟩ := insOf_ok e
    cases rx
    obtain ⟨hy, h⟩ := h
    obtain ⟨tb, hb, hn⟩ := eq_looks c I ry hy
    obtain ⟨fa, h1, h2, cl, run⟩ := spc_get (us := [u]) c h
    obtain ⟨mA, J, _⟩ := ins_get I.hok ea
    obtain ⟨od, J, _⟩ := J.look
    obtain ⟨m, hF⟩ := I.fr
    show wpAny (model X.prog X.w) X.A (richCompare .Eq (.ref a) u) _ _ _
    refine PySem.W.cmp_K (op := .Eq) (by have := c.room.un; omega) hF I.ok.mod.kin J hb hn h1 h2 (wpAny_mono (run c.room0 c.gd rfl I (.cons ry .nil)) (fun r s' z => ?_) fun _ _ z => z)
    obtain ⟨w, H', I', rv, q⟩ := z
    cases w <;> first | exact q.elim | skip
    cases rv
    exact ⟨.bl _, H', I', rfl, q⟩
  · rcases h with h | h
    · exact ho pins s σ H x y v u Q I rx ry h
    · rw [← c.hK] at h
      exact op_eqDD (by have := c.room.un; omega) pins s σ H x y v u Q I rx ry h
end
end WR
namespace PySem.W
open PySem PySem.Spec PySem.Calls PyProof.Rows PySem.Builtin
section
variable {prog : Program} {w : World} {A : Around} {E : Value → Shared → Prop} {s : Shared} {K : Frag} {x C L f : Addr} {h₀ : Heap} {m : Str → Option Value} {ox : Obj} {od : Option Obj} {name : Str} {b tb : Value}
theorem wr_ifBoundB {M : Model} {id : String} {args : List Value} {Q : Option Value → Shared → Prop} (X : K.In s.heap) (I : InstAt s.heap x ox C od) (hs : findIn K (.ref C) name = some (some (.builtin id))) (hb : ∀ self, bindSpecial (.builtin id) self = pure (.builtin id, [self]))
    (h : wpAny M A (call (.builtin id) (.ref x :: args)) (fun v => Q (some v)) E s) : wpAny M A (callSpecialIfBound? (.ref x) name args) Q E s := by
  simp only [callSpecialIfBound?, bindSpecialIfBound?]
  refine wpAny_holding (wpAny_bind (wpAny_bind (wpAny_bind (I.type.here ((looks_findIn X hs).here ?_)))))
  refine wpAny_bind (wpAny_askSetting (wpAny_ite ?_))
  have fin : wpAny M A (call (.builtin id) ([.ref x] ++ args) >>= fun v => pure (some v)) Q E s := wpAny_bind (wpAny_mono h (fun v s' h' => wpAny_pure h') fun _ _ h' => h')
  split
  · exact wpAny_bind ((Looks.of_pure (hb _)).here (wpAny_pure (by exact fin)))
  · exact wpAny_tryCatch (wpAny_bind ((Looks.of_pure (hb _)).here (wpAny_pure (by exact fin))))
theorem wr_ne {Q : Value → Shared → Prop} (hu : A.units + 1 < cLine) (X : K.In s.heap) (I : InstAt s.heap x ox C od) (hb : Looks (model prog w) s.heap (typeOf b) tb) (hn : notFirst K C tb = true)
    (hne : findIn K (.ref C) "__ne__" = some (some (.builtin "object.__ne__"))) (hm : Looks (model prog w) s.heap (isInstance (.ref x) (.type "object")) true) (hs : findIn K (.ref C) "__eq__" = some (some (.ref f))) (hf : isFn K (.ref f) = true)
    (h : wpAny (model prog w) A.in1 (call (.ref f) [.ref x, b]) (fun v s' => ∃ r, v = .bool r ∧ Q (.bool (!r)) s') E s) : wpAny (model prog w) A (richCompare .NotEq (.ref x) b) Q E s := by
  have one : wpAny (model prog w) A (tryCompare (.ref x) "__ne__" b) (fun r s' => ∃ v, r = some v ∧ Q v s') E s := by
    unfold tryCompare
    refine wpAny_bind (wr_ifBoundB (id := "object.__ne__") X I hne PySem.F.slot_zip_ne.bind (wpAny_call (codeAny_call_builtin PySem.F.slot_zip_ne.plain F.cmpEntry_ne (check_slot F.cmpKind_ne F.cmpSplit_ne hm (F.cmpArgs_ne _ _) ?_))))
    unfold Builtin.«object.__ne__»
    refine wpAny_bind (m := slotArgs "__ne__" 1 _) (wpAny_pure ?_)
    refine wpAny_bind (wpAny_cRoomFor hu ?_)
    refine wpAny_bind (m := callSpecialIfBound? (.ref x) (Str.ofString "__eq__") [b]) (ifBound_K X I hs hf (wpAny_mono h (fun v s' hv => ?_) fun _ _ e => e))
    obtain ⟨r, rfl, hq⟩ := hv
    refine wpAny_bind (m := truthy (.bool r)) (wpAny_truthy_bool ?_)
    first | exact wpAny_pure ⟨_, rfl, wpAny_pure ⟨_, rfl, hq⟩⟩ | exact wpAny_pure (wpAny_pure ⟨_, rfl, hq⟩) | exact wpAny_pure ⟨_, rfl, hq⟩ | exact wpAny_pure ⟨_, rfl, wpAny_pure hq⟩
  unfold richCompare
  simp only [oneThing_ref]
  refine wpAny_holding (wpAny_bind (wpAny_cRoomFor (Nat.lt_of_succ_lt hu) ?_))
  refine wpAny_bind (I.type.here (wpAny_bind (hb.here ?_)))
  rw [cmpInfo_NotEq]
  dsimp only
  split
  · rename_i q
    have e : subIn K tb (.ref C) = some false := by
      rcases Bool.or_eq_true_iff.mp hn with e | e
      · rw [beq_iff_eq.mp e] at q; simp at q
      · exact beq_iff_eq.mp e
    refine wpAny_bind ((looks_subIn X e).here ?_)
    simp only [Bool.false_eq_true, if_false]
    refine wpAny_bind (wpAny_mono one (fun r s' z => ?_) fun _ _ e => e)
    obtain ⟨v, rfl, hq⟩ := z
    exact wpAny_pure hq
  · refine wpAny_bind (wpAny_pure ?_)
    simp only [Bool.false_eq_true, if_false]
    refine wpAny_bind (wpAny_mono one (fun r s' z => ?_) fun _ _ e => e)
    obtain ⟨v, rfl, hq⟩ := z
    exact wpAny_pure hq
theorem wr_truthy {Q : Bool → Shared → Prop} (X : K.In s.heap) (I : InstAt s.heap x ox C od) (hb : findIn K (.ref C) "__bool__" = some none) (hs : findIn K (.ref C) "__len__" = some (some (.ref f))) (hf : isFn K (.ref f) = true)
    (h : wpAny (model prog w) A.in1 (call (.ref f) [.ref x]) (fun r s' => ∃ n u, r = .int n u ∧ (0 ≤ n ∧ n < 2 ^ 63) ∧ Q (n != 0) { s' with toks := s'.toks + 1 }) E s) : wpAny (model prog w) A (truthy (.ref x)) Q E s := by
  have key : wpAny (model prog w) A (runValue (.builtin "len" ⟨[.ref x], []⟩)) (fun r s' => ∃ n t, r = .int n t ∧ Q (n != 0) s') E s := by
    refine wpAny_runValue (codeAny_builtin entry_len ?_)
    rw [Around.under_plainId plain_len _]
    unfold Builtin.«len»
    refine wpAny_bind (m := oneArg "len" _) (wpAny_pure ?_)
    refine wpAny_bind (m := callSpecial? (.ref x) (Str.ofString "__len__")) (special_fn X I hs (beq_iff_eq.mp hf) (wpAny_mono h (fun r s' hr => ?_) fun _ _ y => y))
    obtain ⟨n, u, rfl, ⟨h0, h1⟩, hq⟩ := hr
    refine wpAny_bind (wpAny_holding (wpAny_pure ?_))
    refine wpAny_bind (wpAny_letGo ?_)
    show wpAny _ _ (if n < 0 then _ else _) _ _ _
    rw [if_neg (by omega)]
    show wpAny _ _ (if n ≥ 2 ^ 63 then _ else _) _ _ _
    rw [if_neg (by omega)]
    exact wpAny_bind (wpAny_mkInt (wpAny_pure ⟨_, _, rfl, hq⟩))
  unfold truthy
  refine wpAny_bind (m := callSpecial? (.ref x) (Str.ofString "__bool__")) ?_
  refine wpAny_bind (wpAny_bind (I.type.here ((looks_findIn X hb).here ?_)))
  refine wpAny_pure ?_
  refine wpAny_bind (wpAny_bind (I.type.here ((looks_findIn X hs).here ?_)))
  show wpAny _ _ (if (some (Value.ref f)).isNone = true then _ else _) _ _ _
  rw [if_neg (by simp)]
  refine wpAny_bind (m := runValue _) (wpAny_mono key (fun v s' hv => ?_) fun _ _ e => e)
  obtain ⟨n, t, rfl, hq⟩ := hv
  exact wpAny_pure hq
theorem wr_bool {Q : Value → Shared → Prop} (h : wpAny (model prog w) A.in1.in1 (truthy (.ref x)) (fun b s' => Q (.bool b) s') E s) : wpAny (model prog w) A (call (.type "bool") [.ref x]) Q E s := by
  refine callType_newIn F.called_bool (by decide) (F.typeCall_bool_1 _) (F.newCall_bool_1 _) (fun obj => F.args_object_init_2 obj _) F.entry_bool_new (S := fun A R s => wpAny (model prog w) A.in1 (truthy (.ref x)) (fun b s' => R (.ok (.ret (.bool b))) s') (fun e s' => R (.error e) s') s) (MeetsIn.of_wp fun A R s hq => ?_) ?_
  · obtain ⟨hp, g, d, tk, os⟩ := s
    have f1 := F.conv_sub_bool
    repeat (any_goals (first | assumption | (refine wpAny_mono hq (fun b s' hb => ?_) fun _ _ e => e) | wp_step))
    all_goals first | exact ⟨_, rfl, hb⟩ | exact hb | skip
  · exact wpAny_mono h (fun b s' hb => ⟨rfl, hb⟩) fun _ _ e => e
end
end PySem.W

namespace WR
open PySem PySem.Spec PyProof.Rows L2
section
variable {g : G} {lev : Nat} {X : Cx} {N : List Str} {sc : Scope} {W : WX}
theorem r_neG (c : COk g lev X N sc W) (ho : OpR X (compareOp .NotEq) (oNe g.K)) : OpR X (compareOp .NotEq) (oNeG g) := by
  intro pins s σ H x y v u Q I rx ry h
  unfold oNeG at h
  split at h
  · rename_i a C fs e
    obtain ⟨dx, rfl, ea⟩ := insOf_ok e
    cases rx
    obtain ⟨⟨p, hp, hC⟩, hy, h⟩ := h
    subst hC
    have hne := (ownB_ok (c.gok.nes p hp)).1
    rw [← c.hK] at hne
    obtain ⟨tb, hb, hn⟩ := eq_looks c I ry hy
    obtain ⟨fa, h1, h2, cl, run⟩ := spc_get (us := [u]) c h
    obtain ⟨mA, J, _⟩ := ins_get I.hok ea
    obtain ⟨od, J, _⟩ := J.look
    show wpAny (model X.prog X.w) X.A (richCompare .NotEq (.ref a) u) _ _ _
    have hm : PySem.W.Looks (model X.prog X.w) s.heap (isInstance (.ref a) (.type "object")) true := by
      obtain ⟨cd, hc, ho⟩ := PySem.W.any_some cl.po
      have ne : cd.mro.isEmpty = false := by cases q : cd.mro with | nil => rw [q] at ho; cases ho | cons _ _ => rfl
      exact J.type.andThen (PySem.W.looks_mroIn I.kIn (by unfold PySem.W.mroIn; rw [hc, Option.bind_some, if_neg (by rw [ne]; decide), PySem.W.only_has ho]))
    refine PySem.W.wr_ne (by have := c.room.un; omega) I.kIn J hb hn hne hm h1 h2 (wpAny_mono (run c.room.in1 c.gd rfl I (.cons ry .nil)) (fun r s' z => ?_) fun _ _ z => z)
    obtain ⟨w, H', I', rv, q⟩ := z
    cases w <;> first | exact q.elim | skip
    cases rv
    exact ⟨_, rfl, .bl _, H', I', rfl, q⟩
  · rcases h with h | h
    · exact ho pins s σ H x y v u Q I rx ry h
    · rw [← c.hK] at h
      exact op_neDD (by have := c.room.un; omega) pins s σ H x y v u Q I rx ry h
theorem b_boolG (c : COk g lev X N sc W) : CallR X (.type "bool") (bBoolG g) := by
  intro pins s σ H xs us Q I r h
  unfold bBoolG at h
  split at h
  · exact call_bool1 pins s σ H _ us Q I r (.inl ⟨_, rfl, h⟩)
  · exact call_bool1 pins s σ H _ us Q I r (.inr ⟨_, rfl, h⟩)
  · split at h
    · rename_i x _ _ a C fs e
      obtain ⟨dx, rfl, ea⟩ := insOf_ok e
      obtain ⟨u, rfl, ru⟩ := vals1 r
      cases ru
      obtain ⟨⟨cs, hl, hC⟩, h⟩ := h
      obtain ⟨_, hb⟩ := c.gok.ats _ (lookup_mem hl) _ hC
      rw [← c.hK] at hb
      obtain ⟨fa, h1, h2, cl, run⟩ := spc_get (us := []) c h
      obtain ⟨mA, J, _⟩ := ins_get I.hok ea
      obtain ⟨od, J, _⟩ := J.look
      refine PySem.W.wr_bool (PySem.W.wr_truthy I.kIn J hb h1 h2 (wpAny_mono (run (room_in3 c.room) c.gd rfl I .nil) (fun u s' z => ?_) fun _ _ z => z))
      obtain ⟨v, H', I', rv, q⟩ := z
      cases v <;> first | exact q.elim | skip
      obtain ⟨t, rfl⟩ := rv
      exact ⟨_, _, rfl, q.1, ⟨.bl _, H', I'.tok _, rfl, q.2⟩⟩
    · exact h.elim
  · exact h.elim

/-- isinstance(x, D), D an own class -/
def bIsO (g : G) (D : Addr) : RC := fun xs H Q => match xs with
  | [x, .ref D'] => D' = D ∧ (match insOf H x with
    | some (_, C, _) => (∃ p ∈ g.nes, p.2 = C) ∧ ((C = D ∧ Q (.bl true) H) ∨ (PySem.W.kitOne g.K (.ref C) (.ref D) = some false ∧ Q (.bl false) H))
    | none => (tyN g.K H x).isSome = true ∧ Q (.bl false) H)
  | _ => False
theorem tyN_basic {K : PySem.W.Frag} {H : Hp} {x : V} {n : String} (h : tyN K H x = some n) : n ∈ basics := by
  unfold tyN at h
  split at h
  all_goals try (cases h <;> simp [basics])
  split at h
  all_goals try (cases h <;> simp [basics])
  split at h <;> cases h <;> simp [basics]
theorem b_isO (c : COk g lev X N sc W) {D : Str × Addr} (hD : D ∈ g.nes) : CallR X (.builtin "isinstance") (bIsO g D.2) := by
  refine CallR_imp call_isi fun xs H Q h => ?_
  rw [c.hK]
  unfold bIsO at h
  split at h
  · obtain ⟨rfl, h⟩ := h
    have hcl := c.gok.nec D hD
    obtain ⟨k1, k2, k3, k4, k5, k6, k7⟩ := ownB_ok (c.gok.nes D hD)
    split at h
    · rename_i a C fs e
      obtain ⟨dx, rfl, ea⟩ := insOf_ok e
      obtain ⟨⟨p, hp, rfl⟩, h⟩ := h
      obtain ⟨m1, m2, m3, m4, m5, m6, m7⟩ := ownB_ok (c.gok.nes p hp)
      rcases h with ⟨hC, h⟩ | ⟨hk, h⟩
      · rw [hC] at ea
        exact ⟨_, _, _, _, true, rfl, .own _, .base (.ins ea hcl k2 k3 k4 k5), k6, h⟩
      · rcases c.gok.nec p hp with cl
        exact ⟨_, _, _, _, false, rfl, .own _, .base (.ins ea cl m2 m3 m4 m5), hk, h⟩
    · cases e : tyN g.K H _ with
      | none => rw [e] at h; cases h.1
      | some n => exact ⟨_, _, _, _, false, rfl, .own _, tyN_ok e, k7 n (tyN_basic e), h.2⟩
  · exact h.elim
/-! ### sorted -/
def allStr : List V → Option (List Str)
  | [] => some []
  | .str x :: r => (allStr r).map (x :: ·)
  | _ => none
def allInt : List V → Option (List Int)
  | [] => some []
  | .int x :: r => (allInt r).map (x :: ·)
  | _ => none
theorem allStr_ok : ∀ {vs : List V} {ss : List Str}, allStr vs = some ss → vs = ss.map V.str
  | [], ss, h => by cases h; rfl
  | v :: r, ss, h => by
    cases v <;> simp [allStr] at h
    obtain ⟨l, hl, rfl⟩ := h
    rw [allStr_ok hl]; rfl
theorem allInt_ok : ∀ {vs : List V} {ss : List Int}, allInt vs = some ss → vs = ss.map V.int
  | [], ss, h => by cases h; rfl
  | v :: r, ss, h => by
    cases v <;> simp [allInt] at h
    obtain ⟨l, hl, rfl⟩ := h
    rw [allInt_ok hl]; rfl
theorem allStr_map : ∀ ss : List Str, allStr (ss.map V.str) = some ss
  | [] => rfl
  | x :: r => by show (allStr (r.map V.str)).map (x :: ·) = _; rw [allStr_map r]; rfl
theorem allInt_map : ∀ ss : List Int, allInt (ss.map V.int) = some ss
  | [] => rfl
  | x :: r => by show (allInt (r.map V.int)).map (x :: ·) = _; rw [allInt_map r]; rfl
def keysS : List (Key × V) → Option (List Str)
  | [] => some []
  | (.inr x, _) :: r => (keysS r).map (x :: ·)
  | _ => none
theorem keysS_ok : ∀ {kvs : List (Key × V)} {ss : List Str}, keysS kvs = some ss → kvs.map (·.1) = ss.map Sum.inr
  | [], ss, h => by cases h; rfl
  | (k, v) :: r, ss, h => by
    cases k with
    | inl i => simp [keysS] at h
    | inr x =>
      simp [keysS] at h
      obtain ⟨l, hl, rfl⟩ := h
      rw [List.map_cons, List.map_cons, keysS_ok hl]
/-- sorted(..) of texts, of whole numbers, of a dict's text keys -/
def bSorted (K : PySem.W.Frag) : RC := fun xs H Q => match xs with
  | [.ref a] => (match look K H a with
    | some (.lst vs) => (match allStr vs with
      | some ss => ss.length < 64 ∧ ∀ ys : List Str, ys.Perm ss → sortedS ys = true → ∀ p, H p = none → Q (.ref p) (upd H p (.lst (ys.map V.str)))
      | none => (match allInt vs with
        | some ns => ∀ ys : List Int, ys.Perm ns → ys.Pairwise (· ≤ ·) → ∀ p, H p = none → Q (.ref p) (upd H p (.lst (ys.map V.int)))
        | none => False))
    | some (.dK kvs) => (match keysS kvs with
      | some ss => ss.length < 64 ∧ ∀ ys : List Str, ys.Perm ss → sortedS ys = true → ∀ p, H p = none → Q (.ref p) (upd H p (.lst (ys.map V.str)))
      | none => False)
    | _ => False)
  | _ => False
theorem b_sorted (hc : X.calm = true) : CallR X (.builtin "sorted") (bSorted X.K) := by
  refine CallR_imp (cr_sortedS.or (cr_sortedI.or (call_sortedD hc))) fun xs H Q h => ?_
  unfold bSorted at h
  split at h
  · split at h
    · rename_i vs e
      split at h
      · rename_i ss es
        rw [allStr_ok es] at e
        exact .inl ⟨_, ss, rfl, look_lst e, h.1, fun ys p h1 h2 h3 => h.2 ys h1 h2 p h3⟩
      · split at h
        · rename_i ns es
          rw [allInt_ok es] at e
          exact .inr (.inl ⟨_, ns, rfl, look_lst e, fun ys p h1 h2 h3 => h ys h1 h2 p h3⟩)
        · exact h.elim
    · rename_i kvs e
      split at h
      · rename_i ss es
        exact .inr (.inr ⟨_, kvs, ss, rfl, look_dK e, keysS_ok es, h.1, fun ys p h1 h2 h3 => h.2 ys h1 h2 p h3⟩)
      · exact h.elim
    · exact h.elim
  · exact h.elim
end

/-! ### f'..', dict comprehensions -/
def cFmt (te : TE) : TE := fun σ H Q => te σ H fun x H1 => match x with
  | .str y => y.length ≤ sizeLine ∧ Q (.str y) H1
  | .int i => i.natAbs.log2 < 1920 ∧ Q (.str (toString i)) H1
  | _ => False
/-- the texts one behind the other -/
def cJs : List TE → Str → St → Hp → (Str → Hp → Prop) → Prop
  | [], acc, _, H, Q => Q acc H
  | t :: ts, acc, σ, H, Q => t σ H fun x H1 => match x with
    | .str y => (acc ++ y).length ≤ sizeLine ∧ cJs ts (acc ++ y) σ H1 Q
    | _ => False
/-- a dict comprehension's turns -/
def lpd (J : It) (g : TG) (tt : TT) (tk tv : TE) (vs : List Nat) (σ : St) (D : Addr) (Q : VK) : Nat → Nat → Hp → Prop
  | 0, i, H => J.stop i H ∧ Q (.ref D) H
  | n + 1, i, H => (J.stop i H ∧ Q (.ref D) H) ∨ (J.go i H ∧ ∀ x H', J.yld i H x H' → g x (wipe σ vs) H' fun σ2 H2 => wipe σ2 vs = wipe σ vs ∧ tt σ2 H2 fun b H3 =>
      if b = true then tk σ2 H3 fun y H4 => tv σ2 H4 fun z H5 => ∃ kvs k, y = kV k ∧ H5 D = some (.dK kvs) ∧ kvs.length < sizeLine ∧ lpd J g tt tk tv vs σ D Q n (i + 1) (upd H5 D (.dK (putK kvs k z)))
      else lpd J g tt tk tv vs σ D Q n (i + 1) H3)
def cDc (wi : TI) (g : TG) (tt : TT) (tk tv : TE) (vs : List Nat) : TE := fun σ H Q => wi σ H fun J H1 => ∀ D, H1 D = none → ∃ n, lpd J g tt tk tv vs σ D Q n 0 (upd H1 D (.dK []))
end WR

set_option Elab.async false
set_option linter.all false
set_option maxRecDepth 100000
set_option maxHeartbeats 4000000
namespace WR
open PySem PySem.Spec PyProof.Rows L2

/-! ## repr of data at any depth -/
def kD : Key → PyData
  | .inl i => .int i
  | .inr s => .str s
mutual
inductive Dx (K : PySem.W.Frag) (H : Hp) : V → PyData → Prop
  | non : Dx K H .non .none
  | bl (b : Bool) : Dx K H (.bl b) (.bool b)
  | int (i : Int) : Dx K H (.int i) (.int i)
  | str (x : Str) : Dx K H (.str x) (.str x)
  | lst {a : Addr} {xs : List V} {ds : List PyData} : look K H a = some (.lst xs) → DxAll K H xs ds → Dx K H (.ref a) (.list ds)
  | tup {a : Addr} {xs : List V} {ds : List PyData} : look K H a = some (.tup xs) → DxAll K H xs ds → Dx K H (.ref a) (.tuple ds)
  | dic {a : Addr} {kvs : List (Key × V)} {ds : List (PyData × PyData)} : Rd H a (.dK kvs) → DxKv K H kvs ds → Dx K H (.ref a) (.dict ds)
inductive DxAll (K : PySem.W.Frag) (H : Hp) : List V → List PyData → Prop
  | nil : DxAll K H [] []
  | cons {v : V} {vs : List V} {d : PyData} {ds : List PyData} : Dx K H v d → DxAll K H vs ds → DxAll K H (v :: vs) (d :: ds)
inductive DxKv (K : PySem.W.Frag) (H : Hp) : List (Key × V) → List (PyData × PyData) → Prop
  | nil : DxKv K H [] []
  | cons {k : Key} {v : V} {kvs : List (Key × V)} {d : PyData} {ds : List (PyData × PyData)} : Dx K H v d → DxKv K H kvs ds → DxKv K H ((k, v) :: kvs) ((kD k, d) :: ds)
end
theorem sys_dict {K : PySem.W.Frag} (h : sysB K = true) : ∃ o es n, K.lookup sysModules = some o ∧ o.data = .dict es n := by
  unfold sysB at h
  split at h
  · rename_i o e
    unfold isDctO at h
    split at h
    · rename_i es n hd
      exact ⟨o, es, n, e, hd⟩
    · cases h
  · cases h
section
variable {X : Cx} {pins : List (Addr × Obj)} {σ : St} {H : Hp} {s : Shared}
/-- nothing tracked stands at sys.modules, and no list of the written part -/
theorem sys_free (I : Inv X pins σ H s) (hs : sysB X.K = true) : H sysModules = none := by
  obtain ⟨o, es, n, e, _⟩ := sys_dict hs
  exact (I.bs _ o (I.ok.mod.kin _ _ e)).2
theorem sys_lst (I : Inv X pins σ H s) (hs : sysB X.K = true) {a : Addr} {u : HO} (h : look X.K H a = some u) : sysModules ≠ a := by
  rintro rfl
  have n := sys_free I hs
  unfold look at h
  rw [n] at h
  obtain ⟨o, es, m, e, hd⟩ := sys_dict hs
  unfold kobj at h
  rw [e] at h
  simp only [hd] at h
  cases h
theorem key_reads {k : Key} {u : Value} (h : keyIs k u = true) : Reads s.heap u (kD k) [] := by
  rcases keyIs_shape h with ⟨i, t, rfl, rfl⟩ | ⟨x, t, rfl, rfl⟩
  · exact .int i t
  · exact .str x t
mutual
theorem Dx.reads (I : Inv X pins σ H s) (hs : sysB X.K = true) : ∀ (d : PyData) (v : V) (u : Value), Dx X.K H v d → RelV v u → ∃ as, Reads s.heap u d as ∧ sysModules ∉ as
  | .none, _, _, h, r => by
    cases h; cases r
    exact ⟨[], .none, by simp⟩
  | .bool b, _, _, h, r => by
    cases h; cases r
    exact ⟨[], .bool b, by simp⟩
  | .int i, _, _, h, r => by
    cases h
    obtain ⟨t, rfl⟩ := r
    exact ⟨[], .int i t, by simp⟩
  | .str x, _, _, h, r => by
    cases h
    obtain ⟨t, rfl⟩ := r
    exact ⟨[], .str x t, by simp⟩
  | .list ds, _, _, h, r => by
    cases h with
    | lst e ha =>
      cases r
      obtain ⟨its, rv, ⟨o, n, ho, hc, _, hd⟩, _⟩ := I.list (look_lst e)
      obtain ⟨as, hr, ns⟩ := Dx.readsAll I hs ds _ its ha rv
      refine ⟨_, .list ho hc hd hr, ?_⟩
      intro m
      rcases List.mem_cons.mp m with m | m
      · exact sys_lst I hs e m
      · exact ns m
  | .tuple ds, _, _, h, r => by
    cases h with
    | tup e ha =>
      cases r
      obtain ⟨its, rv, ⟨o, ho, hc, n, hd⟩, _⟩ := I.tuple (look_tup e)
      obtain ⟨as, hr, ns⟩ := Dx.readsAll I hs ds _ its ha rv
      exact ⟨as, .tuple ho hc hd hr, ns⟩
  | .dict ds, _, _, h, r => by
    cases h with
    | dic e ha =>
      rename_i a kvs
      cases r
      have ok : ObjOk X.prog X.w H s.heap a (.dK kvs) := by
        rcases e with e | ⟨ob, e⟩
        · exact I.hok _ _ e
        · exact (show ObjOk X.prog X.w H s.heap a (.frz ob (.dK kvs)) from I.hok _ _ e).2
      obtain ⟨_, na, vs, kv, o, es, ep, ho, hx, hd, hk, hp, _⟩ := ok
      obtain ⟨as, bs, r1, r2, n1, n2⟩ := Dx.readsKv I hs ds kvs vs es.toList ha kv hp
      refine ⟨_, .dict ho hx.1 hd r1 r2, ?_⟩
      have na' : sysModules ≠ a := fun z => by rw [← z] at na; simp at na
      simp only [List.cons_append, List.mem_cons, List.mem_append, not_or]
      exact ⟨na', n1, n2⟩
theorem Dx.readsAll (I : Inv X pins σ H s) (hs : sysB X.K = true) : ∀ (ds : List PyData) (vs : List V) (us : List Value), DxAll X.K H vs ds → Vals vs us → ∃ as, ReadsAll s.heap us ds as ∧ sysModules ∉ as
  | [], _, _, h, r => by
    cases h; cases r
    exact ⟨[], .nil, by simp⟩
  | d :: ds, _, _, h, r => by
    cases h with
    | cons h1 h2 =>
      cases r with
      | cons r1 r2 =>
        obtain ⟨as, q1, n1⟩ := Dx.reads I hs d _ _ h1 r1
        obtain ⟨bs, q2, n2⟩ := Dx.readsAll I hs ds _ _ h2 r2
        exact ⟨_, .cons q1 q2, fun m => (List.mem_append.mp m).elim n1 n2⟩
theorem Dx.readsKv (I : Inv X pins σ H s) (hs : sysB X.K = true) : ∀ (ds : List (PyData × PyData)) (kvs : List (Key × V)) (vs : List (Key × Value)) (es : List DictEntry), DxKv X.K H kvs ds → KV kvs vs → Pairs (mixKind X.prog X.w) es vs →
    ∃ as bs, ReadsAll s.heap (es.map (·.key)) (ds.map (·.1)) as ∧ ReadsAll s.heap (es.map (·.val)) (ds.map (·.2)) bs ∧ sysModules ∉ as ∧ sysModules ∉ bs
  | [], kvs, vs, es, h, r, p => by
    cases h; cases r; cases p
    exact ⟨[], [], .nil, .nil, by simp, by simp⟩
  | (kd, d) :: ds, kvs, vs, es, h, r, p => by
    cases h with
    | cons h1 h2 =>
      cases r with
      | cons r1 r2 =>
        cases p with
        | cons p1 p2 p3 =>
          obtain ⟨e1, r1⟩ := r1
          obtain ⟨as, bs, q1, q2, n1, n2⟩ := Dx.readsKv I hs ds _ _ _ h2 r2 p3
          obtain ⟨cs, q3, n3⟩ := Dx.reads I hs d _ _ h1 r1
          rw [← p2] at q3
          rw [← e1] at p1
          refine ⟨_, _, .cons (key_reads p1) q1, .cons q3 q2, ?_, ?_⟩
          · simpa using n1
          · exact fun m => (List.mem_append.mp m).elim n3 n2
end
end
/-! ### repr -/
def bRepr (K : PySem.W.Frag) : RC := fun xs H Q => ∃ x d, xs = [x] ∧ Dx K H x d ∧ d.showable = true ∧ d.depth ≤ 40 ∧ d.shown.length ≤ sizeLine ∧ Q (.str d.shown) H
theorem b_repr {X : Cx} (gd : X.A.guards = some []) (hu : X.A.units + 64 < cLine) (hs : sysB X.K = true) : CallR X (.builtin "repr") (bRepr X.K) := by
  intro pins s σ H xs us Q I r h
  obtain ⟨x, d, rfl, hx, h1, h2, h3, q⟩ := h
  obtain ⟨u, rfl, ru⟩ := vals1 r
  obtain ⟨as, rd, ns⟩ := Dx.reads I hs d x u hx ru
  cases rd with
  | none => exact PySem.P.repr_of_none ⟨.str _, H, I.tok _, ⟨_, rfl⟩, q⟩
  | bool b => exact PySem.P.repr_of_bool ⟨.str _, H, I.tok _, ⟨_, rfl⟩, q⟩
  | int i t => exact PySem.P.repr_of_int (by simpa [PyData.showable] using h1) ⟨.str _, H, I.tok _, ⟨_, rfl⟩, q⟩
  | str y t => exact PySem.P.repr_of_str ⟨.str _, H, I.tok _, ⟨_, rfl⟩, q⟩ h3
  | list e1 e2 e3 e4 => exact repr_of_reads' (.list e1 e2 e3 e4) h1 (fun _ => ns) gd (by omega) (fun _ _ z => z) (fun h' u tk k => ⟨.str _, H, I.kept (t' := tk) k, ⟨_, rfl⟩, q⟩) h3
  | tuple e1 e2 e3 e4 => exact repr_of_reads' (.tuple e1 e2 e3 e4) h1 (fun _ => ns) gd (by omega) (fun _ _ z => z) (fun h' u tk k => ⟨.str _, H, I.kept (t' := tk) k, ⟨_, rfl⟩, q⟩) h3
  | dict e1 e2 e3 e4 e5 => exact repr_of_reads' (.dict e1 e2 e3 e4 e5) h1 (fun _ => ns) gd (by omega) (fun _ _ z => z) (fun h' u tk k => ⟨.str _, H, I.kept (t' := tk) k, ⟨_, rfl⟩, q⟩) h3
end WR

set_option Elab.async false
set_option linter.all false
set_option maxRecDepth 100000
set_option maxHeartbeats 4000000
namespace WR
open PySem PySem.Spec PyProof.Rows L2

/-! ## list(d.values()), list(d.items()) -/
def cLV (te : TE) : TE := fun σ H Q => te σ H fun x H1 => match x with
  | .ref d => (match H1 d with
    | some (.dK kvs) => ∀ p, H1 p = none → Q (.ref p) (upd H1 p (.lst (kvs.map (·.2))))
    | _ => False)
  | _ => False
section
variable {X : Cx} {e : Expr} {te : TE} {p apos cpos pos : Pos}
theorem kv_vals {kvs : List (Key × V)} {vs : List (Key × Value)} (kv : KV kvs vs) : Vals (kvs.map (·.2)) (vs.map (·.2)) := by
  induction kv with
  | nil => exact .nil
  | cons h t ih => exact .cons h.2 ih
theorem pe_listVals (hc : X.calm = true) (he : PE X e te) (hg : Gl X "list") (hm : X.mg "list" = none) (hv : bootBuiltins "list" = some (.type "list")) (hbase : attributeBase e "values" X.env (eval e X.env) = eval e X.env) (hline : (apos.endLine == cpos.line) = true) :
    PE X (.Call (.Name "list" p) [.Call (.Attribute e "values" apos) [] [] cpos] [] pos) (cLV te) := by
  constructor
  intro pins s σ H Q I want
  have hs : starEach [.Call (.Attribute e "values" apos) [] [] cpos] X.env = (false, eval (.Call (.Attribute e "values" apos) [] [] cpos) X.env) :: starEach [] X.env := rfl
  refine wpAny_Call_Name_kw (ld_blt I hg hm hv (PyProof.Rows.callWith_type1 ?_ hs rfl))
  rw [hs]
  show wpAny _ _ (spliced ((false, eval (.Call (.Attribute e "values" apos) [] [] cpos) X.env) :: backTo pos (starEach [] X.env))) _ _ s
  apply Calls.spliced_cons
  apply wpAny_Call_method (T := "dict") (id := "dict.values") hbase rfl hline F.plainAttrs_dict F.slot_dict_values F.type_dict_values
  refine thn (he.run pins s σ H _ I want) fun u s1 got => ?_
  obtain ⟨x, H1, I1, rx, q⟩ := got
  try dsimp only at q
  split at q
  · rename_i d
    split at q
    · rename_i kvs hd
      obtain rfl : u = Value.ref d := rx
      obtain ⟨hz, hs0, vs, kv, hdo⟩ := I1.hok d _ hd
      obtain ⟨ep, hat⟩ := hdo.dictAt
      have lk : kvs.length = vs.length := Paired.length kv
      have I2 : Inv X pins σ H1 { s1 with heap := s1.heap.push { cls := .type "dict_values", data := .fields #[.ref d] } } := I1.kept (t' := s1.toks) fun b ob q => Heap.get?_push_of_some _ q
      refine ⟨hdo.typeIs, hdo.mapOf.noDict, ?_⟩
      show wpAny _ _ (callWith cpos (.builtin "dict.values") [.ref d] [] []) _ X.xe s1
      refine method_meetsIn F.slot_dict_values F.entry_dict_values rfl (PySem.evalArgs_none ⟨rfl, hdo.typeIs, F.args_dict_values_1 _, _, meets_dict_values (mixKind X.prog X.w) d hs0, ⟨vs, hdo⟩, ?_⟩)
      refine Calls.spliced_nil ?_
      refine PySem.W.kdl_call (PySem.W.kdl_values (knd := mixKind X.prog X.w) (kvs := vs) (ep := ep)) (I1.ok.hd hc) ⟨⟨_, Heap.get?_push_size _ rfl, rfl, rfl⟩, hat.push _⟩ (by omega) fun h' tk acc c keep hS items => ?_
      have el : acc.toList = vs.map (·.2) := by
        apply List.ext_getElem?
        intro j
        by_cases hj : j < acc.size
        · have e1 : acc[j]? = some acc[j] := Array.getElem?_eq_getElem hj
          obtain ⟨k, e2⟩ := items.2 j _ e1
          rw [Array.getElem?_toList, e1, List.getElem?_map, e2]
          rfl
        · have hl := items.1
          rw [List.getElem?_eq_none (by simpa using hj), List.getElem?_eq_none (by rw [List.length_map]; omega)]
      have fresh : H1 ({ s1 with heap := s1.heap.push { cls := .type "dict_values", data := .fields #[.ref d] } } : Shared).heap.objs.size = none := I2.hok.fresh (Nat.le_refl _)
      refine ⟨.ref _, _, I2.laid (t' := tk) (o := .lst (kvs.map (·.2))) keep (Nat.le_refl _) ?_, rfl, q _ fresh⟩
      refine ⟨by rw [List.length_map]; exact hz, acc.toList, c, ?_, ?_⟩
      · rw [el]
        exact kv_vals kv
      · rw [Array.toArray_toList]
        exact hS
    · exact q.elim
  · exact q.elim
end
def cLI (te : TE) : TE := LiI.tListItems te
end WR

set_option Elab.async false
set_option linter.all false
set_option maxRecDepth 100000
set_option maxHeartbeats 4000000
namespace WR
open PySem PySem.Spec PyProof.Rows L2 PySem.W

/-! ## > and >= of tuples of ints and texts; | of truths; sorted of data -/
def pOk : V → V → Bool
  | .int _, .int _ => true
  | .str _, .str _ => true
  | _, _ => false
def vGt : V → V → Bool
  | .int i, .int j => decide (j < i)
  | .str a, .str b => decide (b.cps.toList < a.cps.toList)
  | _, _ => false
def vGe : V → V → Bool
  | .int i, .int j => decide (j ≤ i)
  | .str a, .str b => !decide (a.cps.toList < b.cps.toList)
  | _, _ => false
def vLex (r : V → V → Bool) (z : Bool) : List V → List V → Bool
  | x :: xs, y :: ys => if x = y then vLex r z xs ys else r x y
  | _, _ => z
def pAll : List V → List V → Bool
  | [], [] => true
  | x :: xs, y :: ys => pOk x y && pAll xs ys
  | _, _ => false
theorem pAll_len : ∀ {xs ys : List V}, pAll xs ys = true → xs.length = ys.length
  | [], [], _ => rfl
  | x :: xs, y :: ys, h => by
    simp only [pAll, Bool.and_eq_true] at h
    simp [pAll_len h.2]
  | [], _ :: _, h => by cases h
  | _ :: _, [], h => by cases h
theorem pAll_at : ∀ {xs ys : List V}, pAll xs ys = true → ∀ j (h1 : j < xs.length) (h2 : j < ys.length), pOk xs[j] ys[j] = true
  | x :: xs, y :: ys, h, 0, _, _ => by
    simp only [pAll, Bool.and_eq_true] at h
    exact h.1
  | x :: xs, y :: ys, h, j + 1, h1, h2 => by
    simp only [pAll, Bool.and_eq_true] at h
    exact pAll_at h.2 j (by simpa using h1) (by simpa using h2)
  | [], _, _, _, h1, _ => by simp at h1
  | _, [], _, _, _, h2 => by simp at h2
theorem lex_is (r : V → V → Bool) (z : Bool) {xs ys : List V} (hl : xs.length = ys.length) : ∀ k i, i + k = xs.length →
    Ob.lexAt (fun j => decide (xs.getD j .non = ys.getD j .non)) (fun j => r (xs.getD j .non) (ys.getD j .non)) z i k = vLex r z (xs.drop i) (ys.drop i)
  | 0, i, h => by
    rw [List.drop_of_length_le (by omega), Ob.lexAt_zero]; rfl
  | k + 1, i, h => by
    have h1 : i < xs.length := by omega
    have h2 : i < ys.length := by omega
    rw [Ob.lexAt_succ, List.drop_eq_getElem_cons h1, List.drop_eq_getElem_cons h2, lex_is r z hl k (i + 1) (by omega)]
    have e1 : xs.getD i .non = xs[i] := by simp [h1]
    have e2 : ys.getD i .non = ys[i] := by simp [h2]
    rw [e1, e2]
    simp only [vLex, decide_eq_true_eq]
def oGtK (K : PySem.W.Frag) : R2 := fun x y H Q => match x, y with
  | .ref a, .ref b => (match look K H a, look K H b with
    | some (.tup xs), some (.tup ys) => pAll xs ys = true ∧ Q (.bl (vLex vGt false xs ys)) H
    | _, _ => False)
  | _, _ => oGt x y H Q
def oGeK (K : PySem.W.Frag) : R2 := fun x y H Q => match x, y with
  | .ref a, .ref b => (match look K H a, look K H b with
    | some (.tup xs), some (.tup ys) => pAll xs ys = true ∧ Q (.bl (vLex vGe true xs ys)) H
    | _, _ => False)
  | _, _ => oGe x y H Q
section
variable {X : Cx} {pins : List (Addr × Obj)} {σ : St} {H : Hp} {s : Shared}
theorem vals_at : ∀ {xs : List V} {us : List Value}, Vals xs us → ∀ j (h1 : j < xs.length) (h2 : j < us.length), RelV xs[j] us[j]
  | _, _, .cons h t, 0, _, _ => h
  | _, _, .cons h t, j + 1, h1, h2 => vals_at t j (by simpa using h1) (by simpa using h2)
theorem pair_eq {A : Around} {x y : V} {u v : Value} (h : pOk x y = true) (ru : RelV x u) (rv : RelV y v) : SeqAt.EqAt A s u v (decide (x = y)) := by
  unfold pOk at h
  split at h
  · rename_i i j
    obtain ⟨t, rfl⟩ := ru
    obtain ⟨t', rfl⟩ := rv
    have z : decide (V.int i = V.int j) = (i == j) := by
      by_cases q : i = j <;> simp [q]
    rw [z]
    exact SeqAt.EqAt.int_int _ _ _ _
  · rename_i i j
    obtain ⟨t, rfl⟩ := ru
    obtain ⟨t', rfl⟩ := rv
    have z : decide (V.str i = V.str j) = (i == j) := by
      by_cases q : i = j <;> simp [q]
    rw [z]
    exact SeqAt.EqAt.str_str _ _ _ _
  · cases h
theorem pair_gt {A : Around} {x y : V} {u v : Value} (h : pOk x y = true) (ru : RelV x u) (rv : RelV y v) : Ob.RcOp .Gt A s u v (vGt x y) := by
  unfold pOk at h
  split at h
  · obtain ⟨t, rfl⟩ := ru
    obtain ⟨t', rfl⟩ := rv
    exact Ob.RcOp.gt_int _ _ _ _
  · obtain ⟨t, rfl⟩ := ru
    obtain ⟨t', rfl⟩ := rv
    exact fun _ _ _ _ q => PySem.P.gt_str q
  · cases h
theorem pair_ge {A : Around} {x y : V} {u v : Value} (h : pOk x y = true) (ru : RelV x u) (rv : RelV y v) : Ob.RcOp .GtE A s u v (vGe x y) := by
  unfold pOk at h
  split at h
  · obtain ⟨t, rfl⟩ := ru
    obtain ⟨t', rfl⟩ := rv
    exact Ob.RcOp.ge_int _ _ _ _
  · obtain ⟨t, rfl⟩ := ru
    obtain ⟨t', rfl⟩ := rv
    exact fun _ _ _ _ q => PySem.P.ge_str q
  · cases h
theorem r_gtK (hu : X.A.units < cLine) : OpR X (compareOp .Gt) (oGtK X.K) := by
  intro pins s σ H x y v u Q I rx ry h
  unfold oGtK at h
  split at h
  · rename_i a b
    split at h
    · rename_i xs ys ha hb
      obtain ⟨hp, q⟩ := h
      cases rx
      cases ry
      obtain ⟨its, r1, p1, _⟩ := I.tuple (look_tup ha)
      obtain ⟨its2, r2, p2, _⟩ := I.tuple (look_tup hb)
      have l1 := r1.length
      have l2 := r2.length
      have l3 := pAll_len hp
      have R := Ob.RcOp.tuples_gt (A := X.A) (s := s) (e := fun j => decide (xs.getD j .non = ys.getD j .non)) (r := fun j => vGt (xs.getD j .non) (ys.getD j .non)) p1 p2 hu (fun j h1 h2 => by
        simp only [List.size_toArray] at h1 h2
        have e1 : xs.getD j .non = xs[j] := by simp [show j < xs.length by omega]
        have e2 : ys.getD j .non = ys[j] := by simp [show j < ys.length by omega]
        try dsimp only
        rw [e1, e2]
        exact pair_eq (pAll_at hp j (by omega) (by omega)) (by simpa using vals_at r1 j (by omega) h1) (by simpa using vals_at r2 j (by omega) h2)) (fun j h1 h2 _ => by
        simp only [List.size_toArray] at h1 h2
        have e1 : xs.getD j .non = xs[j] := by simp [show j < xs.length by omega]
        have e2 : ys.getD j .non = ys[j] := by simp [show j < ys.length by omega]
        try dsimp only
        rw [e1, e2]
        exact pair_gt (pAll_at hp j (by omega) (by omega)) (by simpa using vals_at r1 j (by omega) h1) (by simpa using vals_at r2 j (by omega) h2))
      rw [List.size_toArray, List.size_toArray, ← l1, ← l2, l3, Nat.min_self, lex_is vGt _ l3 ys.length 0 (by omega)] at R
      rw [show decide (ys.length > ys.length) = false from by simp] at R
      exact R X.prog X.w X.xe (EP X pins σ Q) ⟨.bl _, H, I, rfl, q⟩
    · exact h.elim
  · exact r_gt pins s σ H x y v u Q I rx ry h
theorem r_geK (hu : X.A.units < cLine) : OpR X (compareOp .GtE) (oGeK X.K) := by
  intro pins s σ H x y v u Q I rx ry h
  unfold oGeK at h
  split at h
  · rename_i a b
    split at h
    · rename_i xs ys ha hb
      obtain ⟨hp, q⟩ := h
      cases rx
      cases ry
      obtain ⟨its, r1, p1, _⟩ := I.tuple (look_tup ha)
      obtain ⟨its2, r2, p2, _⟩ := I.tuple (look_tup hb)
      have l1 := r1.length
      have l2 := r2.length
      have l3 := pAll_len hp
      have R := Ob.RcOp.tuples_ge (A := X.A) (s := s) (e := fun j => decide (xs.getD j .non = ys.getD j .non)) (r := fun j => vGe (xs.getD j .non) (ys.getD j .non)) p1 p2 hu (fun j h1 h2 => by
        simp only [List.size_toArray] at h1 h2
        have e1 : xs.getD j .non = xs[j] := by simp [show j < xs.length by omega]
        have e2 : ys.getD j .non = ys[j] := by simp [show j < ys.length by omega]
        try dsimp only
        rw [e1, e2]
        exact pair_eq (pAll_at hp j (by omega) (by omega)) (by simpa using vals_at r1 j (by omega) h1) (by simpa using vals_at r2 j (by omega) h2)) (fun j h1 h2 _ => by
        simp only [List.size_toArray] at h1 h2
        have e1 : xs.getD j .non = xs[j] := by simp [show j < xs.length by omega]
        have e2 : ys.getD j .non = ys[j] := by simp [show j < ys.length by omega]
        try dsimp only
        rw [e1, e2]
        exact pair_ge (pAll_at hp j (by omega) (by omega)) (by simpa using vals_at r1 j (by omega) h1) (by simpa using vals_at r2 j (by omega) h2))
      rw [List.size_toArray, List.size_toArray, ← l1, ← l2, l3, Nat.min_self, lex_is vGe _ l3 ys.length 0 (by omega)] at R
      rw [show decide (ys.length ≥ ys.length) = true from by simp] at R
      exact R X.prog X.w X.xe (EP X pins σ Q) ⟨.bl _, H, I, rfl, q⟩
    · exact h.elim
  · exact r_ge pins s σ H x y v u Q I rx ry h
def oBor : R2 := fun x y H Q => match x, y with
  | .bl a, .bl b => Q (.bl (a || b)) H
  | .int i, .int j => Q (.int (Builtin.bitOr i j)) H
  | _, _ => False
theorem r_bor : OpR X (binaryOp .BitOr) oBor := by
  intro pins s σ H x y v u Q I rx ry h
  unfold oBor at h
  split at h
  · cases rx
    cases ry
    exact PyProof.Rows.or_bool ⟨.bl _, H, I, rfl, h⟩
  · exact op_or pins s σ H _ _ v u Q I rx ry ⟨_, _, rfl, rfl, h⟩
  · exact h.elim
/-- sorted of data that can be put in order -/
def bSortT (K : PySem.W.Frag) : RC := fun xs H Q => ∃ (a : Addr) (vs : List V) (ds : List PyData), xs = [.ref a] ∧ look K H a = some (.lst vs) ∧ DpAll K H vs ds ∧ AllAlike ds ∧ Sortable ds ∧ (∀ d ∈ ds, d.depth ≤ 40) ∧
  ∀ p, H p = none → Q (.ref p) (upd H p (.lst (((vs.zip ds).mergeSort (dataLe false (·.2))).map (·.1))))
theorem zip_each (I : Inv X pins σ H s) : ∀ {vs : List V} {ds : List PyData} {us : List Value}, DpAll X.K H vs ds → Vals vs us →
    (vs.zip ds).map (·.2) = ds ∧ (vs.zip ds).length = vs.length ∧ EachIs (fun u b => RelV b.1 u) us (vs.zip ds) ∧ EachIs (fun u b => ∃ as, Reads s.heap u b.2 as) us (vs.zip ds)
  | [], ds, us, h, r => by
    cases h; cases r
    exact ⟨rfl, rfl, .nil, .nil⟩
  | v :: vs, ds, us, h, r => by
    cases h with
    | @cons _ _ d ds h1 h2 =>
      cases r with
      | @cons _ u _ us r1 r2 =>
        obtain ⟨a, b, c, e⟩ := zip_each I h2 r2
        exact ⟨by simp only [List.zip_cons_cons, List.map_cons, a], by simp only [List.zip_cons_cons, List.length_cons, b], .cons r1 c, .cons (Dp.reads I d v u h1 r1) e⟩
theorem each_vals {bs : List (V × PyData)} {out : List Value} (h : EachIs (fun u b => RelV b.1 u) out bs) : Vals (bs.map (·.1)) out := by
  induction h with
  | nil => exact .nil
  | cons a _ ih => exact .cons a ih
theorem b_sortT (hu : X.A.units + 64 < cLine) : CallR X (.builtin "sorted") (bSortT X.K) := by
  intro pins s σ H xs us Q I r h
  obtain ⟨a, vs, ds, rfl, hs, hd, hal, hso, hdp, q⟩ := h
  obtain ⟨its, rv, hl, hz⟩ := I.list (look_lst hs)
  rw [Vals.ref1 r]
  obtain ⟨e1, e2, e3, e4⟩ := zip_each I hd rv
  refine sorted_data (R := fun u b => RelV b.1 u) (enc := (·.2)) (bs := vs.zip ds) hl.isList e3 e4 (by rw [e1]; exact hal) (by rw [e1]; exact hso) (by rw [e2]; exact hz) (fun b hb => ?_) fun out h1 h2 => ?_
  · have : b.2 ∈ ds := by rw [← e1]; exact List.mem_map_of_mem hb
    have := hdp _ this
    omega
  · obtain ⟨ep, he'⟩ := PyProof.Rows.sortedAll_at s.heap its out.toArray
    have hlen : (((vs.zip ds).mergeSort (dataLe false (·.2))).map (·.1)).length ≤ sizeLine := by
      rw [List.length_map, List.length_mergeSort, e2]; exact hz
    exact ⟨.ref _, upd H (s.heap.objs.size + 1) (.lst (((vs.zip ds).mergeSort (dataLe false (·.2))).map (·.1))), I.laid (t' := s.toks) (fun _ _ => PyProof.Rows.sortedAll_old) (Nat.le_succ _) ⟨hlen, out, ep, each_vals h2, he'⟩, rfl, q _ (I.hok.fresh (Nat.le_succ _))⟩
def bSortedX (K : PySem.W.Frag) : RC := fun xs H Q => bSorted K xs H Q ∨ bSortT K xs H Q
theorem b_sortedX (hc : X.calm = true) (hu : X.A.units + 64 < cLine) : CallR X (.builtin "sorted") (bSortedX X.K) := CallR_imp ((b_sorted hc).or (b_sortT hu)) fun _ _ _ h => h
end
end WR

set_option Elab.async false
set_option linter.all false
set_option maxRecDepth 100000
set_option maxHeartbeats 4000000
namespace WRR
open PySem PySem.W PySem.Calls PyProof.Rows
section
variable {prog : Program} {w : World} {A : Around} {E : Value → Shared → Prop} {s : Shared} {K : Frag} {x C f : Addr} {ox : Obj} {od : Option Obj}
/-! ## u == x, x an own instance: the builtin on the left declines, x is asked -/
theorem wr_eqR {T id : String} {u : Value} {Q : Value → Shared → Prop} (hu : A.units < cLine) (X : K.In s.heap) (I : InstAt s.heap x ox C od) (hT : s.TypeIs u T) (hsub : subIn K (.ref C) (.type T) = some false) (sl : Slot T (cmpInfo .Eq).2.1 id)
    (hc : ∀ Q' : Value → Shared → Prop, Q' .notImplemented s → wpAny (model prog w) A (call (.builtin id) [u, .ref x]) Q' E s) (hs : findIn K (.ref C) "__eq__" = some (some (.ref f))) (hf : isFn K (.ref f) = true)
    (h : wpAny (model prog w) A (call (.ref f) [.ref x, u]) (PySem.W.CmpBack Q) E s) : wpAny (model prog w) A (richCompare .Eq u (.ref x)) Q E s := by
  unfold richCompare
  simp only [hT.oneThing_none]
  refine wpAny_holding (wpAny_bind (wpAny_cRoomFor hu ?_))
  refine wpAny_bind (wpAny_typeOf hT (wpAny_bind (I.type.here ?_)))
  rw [cmpInfo_Eq]
  dsimp only
  rw [if_pos (show (Value.type T != Value.ref C) = true from rfl)]
  refine wpAny_bind ((looks_subIn X hsub).here ?_)
  simp only [Bool.false_eq_true, if_false, Bool.not_false, if_true]
  refine wpAny_bind (m := tryCompare u _ (.ref x)) (wpAny_tryCompare_declines hT sl (hc _ ⟨rfl, ?_⟩))
  refine wpAny_bind (m := tryCompare (.ref x) _ u) ?_
  unfold tryCompare
  refine wpAny_bind (ifBound_K X I hs hf (wpAny_mono h (fun v s' hv => ?_) fun _ _ e => e))
  cases v <;> first | exact hv.elim | exact wpAny_pure (wpAny_pure hv)
theorem int_declines (b : Int) (u : Tok) (l : Addr) (c : Value) (dd : Option Addr) (sl : Array (Option Value)) :
    Meets (Builtin.«int.__eq__» ⟨[.int b u, .ref l], []⟩) (fun _ R s => s.heap.get? l = some { cls := c, dict := dd, data := .plain, slots := sl } ∧ R (.ok (.ret .notImplemented)) s) :=
  .of_wp fun prog w A R s h => by obtain ⟨hp, g, d, tk, os⟩ := s; obtain ⟨hl, h⟩ := h; wp_walk using wpAny_loadPart' hl, wpAny_load hl; exact ⟨_, rfl, h⟩
theorem str_declines (b : Str) (u : Tok) (l : Addr) (c : Value) (dd : Option Addr) (sl : Array (Option Value)) :
    Meets (Builtin.«str.__eq__» ⟨[.str b u, .ref l], []⟩) (fun _ R s => s.heap.get? l = some { cls := c, dict := dd, data := .plain, slots := sl } ∧ R (.ok (.ret .notImplemented)) s) :=
  .of_wp fun prog w A R s h => by obtain ⟨hp, g, d, tk, os⟩ := s; obtain ⟨hl, h⟩ := h; wp_walk using wpAny_loadPart' hl, wpAny_load hl; exact ⟨_, rfl, h⟩
theorem list_declines (l x : Addr) : MeetsIn prog w (Builtin.«list.__eq__» ⟨[.ref l, .ref x], []⟩) (fun _ R s => Looks (model prog w) s.heap (isInstance (.ref x) (.type "list")) false ∧ R (.ok (.ret .notImplemented)) s) := by
  rintro A R s ⟨L, h⟩
  show wpAny _ _ (slotArgs "__eq__" 1 ⟨[.ref l, .ref x], []⟩ >>= _) _ _ _
  refine wpAny_bind (m := slotArgs "__eq__" 1 _) (wpAny_pure ?_)
  refine wpAny_bind (L.here ?_)
  simp only [Bool.not_false, if_true]
  first
    | exact wpAny_pure h
    | exact wpAny_bind (wpAny_pure (wpAny_pure h))
    | exact wpAny_bind (wpAny_pure h)
theorem dict_declines (l x : Addr) : MeetsIn prog w (Builtin.«dict.__eq__» ⟨[.ref l, .ref x], []⟩) (fun _ R s => Looks (model prog w) s.heap (isInstance (.ref x) (.type "dict")) false ∧ R (.ok (.ret .notImplemented)) s) := by
  rintro A R s ⟨L, h⟩
  show wpAny _ _ (Builtin.Dict.dictSlotArgs "__eq__" ⟨[.ref l, .ref x], []⟩ >>= _) _ _ _
  refine wpAny_bind (m := Builtin.Dict.dictSlotArgs "__eq__" _) (wpAny_of_eq (a := ((.ref l : Value), (.ref x : Value))) (by rfl) ?_)
  refine wpAny_bind (L.here ?_)
  simp only [Bool.not_false, if_true]
  refine wpAny_bind (wpAny_rule ?_)
  first
    | exact wpAny_pure h
    | exact wpAny_bind (wpAny_pure (wpAny_pure h))
    | exact wpAny_bind (wpAny_pure h)
end
end WRR
namespace WR
open PySem PySem.Spec PyProof.Rows L2
/-- kinds whose == declines an own instance -/
def tyR (H : Hp) : V → Option String
  | .non => some "NoneType"
  | .int _ => some "int"
  | .str _ => some "str"
  | .ref p => (match H p with
    | some (.lst _) => some "list"
    | some (.dK _) => some "dict"
    | _ => none)
  | _ => none
/-- x == y, y an own instance: y is asked -/
def oEqR (g : G) : R2 := fun x y H Q => ∃ n b C fs, tyR H x = some n ∧ insOf H y = some (b, C, fs) ∧ PySem.W.subIn g.K (.ref C) (.type n) = some false ∧ spc g "__eq__" C y [x] H fun v H' => match v with
  | .bl b => Q (.bl b) H'
  | _ => False
def oEqG (g : G) : R2 := fun x y H Q => oEqG0 g x y H Q ∨ oEqR g x y H Q
section
variable {g : G} {lev : Nat} {X : Cx} {N : List Str} {sc : Scope} {W : WX}
theorem r_eqR (c : COk g lev X N sc W) : OpR X (compareOp .Eq) (oEqR g) := by
  intro pins s σ H x y v u Q I rx ry h
  obtain ⟨n, b, C, fs, tx, ey, hs, h⟩ := h
  obtain ⟨dx, rfl, ea⟩ := insOf_ok ey
  cases ry
  obtain ⟨fa, h1, h2, cl, run⟩ := spc_get (us := [v]) c h
  have ob : s.heap.get? b = some (PySem.W.instObj C dx) := (show ObjOk X.prog X.w H s.heap b (.ins C dx fs) from I.hok b _ ea).2.2.2.1
  obtain ⟨mA, J, _⟩ := ins_get I.hok ea
  obtain ⟨od, J, _⟩ := J.look
  have hu : X.A.units < cLine := by have := c.room.un; omega
  rw [← c.hK] at hs
  have ni : PySem.W.Looks (model X.prog X.w) s.heap (isInstance (.ref b) (.type n)) false := J.type.andThen (PySem.W.looks_subIn I.kIn hs)
  have body : wpAny (model X.prog X.w) X.A (call (.ref fa) [.ref b, v]) (PySem.W.CmpBack (EP X pins σ Q)) X.xe s := by
    refine wpAny_mono (run c.room0 c.gd rfl I (.cons rx .nil)) (fun r s' z => ?_) fun _ _ z => z
    obtain ⟨w, H', I', rv, q⟩ := z
    cases w <;> first | exact q.elim | skip
    cases rv
    exact ⟨.bl _, H', I', rfl, q⟩
  show wpAny (model X.prog X.w) X.A (richCompare .Eq v (.ref b)) _ _ _
  cases x with
  | non =>
    cases tx
    obtain rfl : v = Value.none := rx
    exact WRR.wr_eqR hu I.kIn J rfl hs F.slot_NoneType_eq (fun _ hq => call_gives F.slot_NoneType_eq rfl F.entry_NoneType_eq (F.args_NoneType_eq_2 _ _) (SeqAt.NoneType___eq___none_ref_0 b) hq) h1 h2 body
  | int i =>
    cases tx
    obtain ⟨t, rfl⟩ := (show ∃ t, v = Value.int i t from rx)
    exact WRR.wr_eqR hu I.kIn J (typeIs_int s i t) hs F.slot_int_eq (fun _ hq => call_meets F.slot_int_eq (typeIs_int s i t) F.entry_int_eq (F.args_int_eq_2 _ _) (WRR.int_declines i t b (.ref C) (some dx) #[]) ⟨ob, hq⟩) h1 h2 body
  | str y =>
    cases tx
    obtain ⟨t, rfl⟩ := (show ∃ t, v = Value.str y t from rx)
    exact WRR.wr_eqR hu I.kIn J (typeIs_str s y t) hs F.slot_str_eq (fun _ hq => call_meets F.slot_str_eq (typeIs_str s y t) F.entry_str_eq (F.args_str_eq_2 _ _) (WRR.str_declines y t b (.ref C) (some dx) #[]) ⟨ob, hq⟩) h1 h2 body
  | ref p =>
    obtain rfl : v = Value.ref p := rx
    simp only [tyR] at tx
    split at tx
    · rename_i xs e
      cases tx
      obtain ⟨_, its, m, _, eo⟩ := (show ObjOk X.prog X.w H s.heap p (.lst xs) from I.hok p _ e)
      have ty : s.TypeIs (.ref p) "list" := ⟨_, eo, rfl⟩
      exact WRR.wr_eqR hu I.kIn J ty hs F.slot_list_eq (fun _ hq => call_meetsIn F.slot_list_eq ty F.entry_list_eq (F.args_list_eq_2 _ _) (WRR.list_declines p b) ⟨ni, hq⟩) h1 h2 body
    · rename_i kvs e
      cases tx
      obtain ⟨_, _, vs, _, dd⟩ := (show ObjOk X.prog X.w H s.heap p (.dK kvs) from I.hok p _ e)
      have ty : s.TypeIs (.ref p) "dict" := by
        obtain ⟨o, _, _, eo, ed, _⟩ := dd
        exact ⟨o, eo, ed.1⟩
      exact WRR.wr_eqR hu I.kIn J ty hs F.slot_dict_eq (fun _ hq => call_meetsIn F.slot_dict_eq ty F.entry_dict_eq (F.args_dict_eq_2 _ _) (WRR.dict_declines p b) ⟨ni, hq⟩) h1 h2 body
    · cases tx
  | _ => cases tx
theorem r_eqG (c : COk g lev X N sc W) (ho : OpR X (compareOp .Eq) (oEq g.K)) : OpR X (compareOp .Eq) (oEqG g) := (r_eqG0 c ho).or (r_eqR c)
end
end WR

set_option Elab.async false
set_option linter.all false
set_option maxRecDepth 100000
set_option maxHeartbeats 4000000
namespace WR
open PySem PySem.Spec PyProof.Rows L2 HT
/-! ## x[::-1] of lists and tuples -/
section
variable {prog : Program} {w : World} {A : Around} {E : Value → Shared → Prop} {s : Shared}
theorem sliceApplied_rev {sl : Addr} {vs : Value} {n : Nat} {Q : Int × Int × Nat → Shared → Prop} (hs : s.heap.IsSliceOf sl .none .none vs) (ps : IsPart vs (some (-1)))
    (h : Q ((n : Int) - 1, -1, n) s) : wpAny (model prog w) A (Builtin.Slice.sliceApplied (.ref sl) (pure (n : Int))) Q E s := by
  obtain ⟨os, hos, hcs, hds⟩ := id hs
  unfold Builtin.Slice.sliceApplied Builtin.Slice.sliceFields
  refine wpAny_bind (wpAny_bind (wpAny_field hos hds (x := .none) rfl (wpAny_bind (wpAny_field hos hds (x := .none) rfl (wpAny_bind (wpAny_field hos hds (x := vs) rfl (wpAny_pure ?_)))))))
  refine wpAny_bind (slicePart_ ps ?_)
  show wpAny _ _ (if ((-1 : Int) == 0) = true then _ else _) _ _ s
  rw [if_neg (by decide)]
  refine wpAny_bind (slicePart_none (wpAny_bind (slicePart_none (wpAny_bind (wpAny_pure ?_)))))
  show wpAny _ _ (match Builtin.Slice.sliceAdjust none none (-1) (n : Int) with | (lo, hi) => pure (lo, (-1 : Int), Builtin.Slice.slicePlaces lo hi (-1))) _ _ s
  have e1 : Builtin.Slice.sliceAdjust none none (-1) (n : Int) = ((n : Int) - 1, -1) := rfl
  rw [e1]
  have e2 : Builtin.Slice.slicePlaces ((n : Int) - 1) (-1) (-1) = n := by
    unfold Builtin.Slice.slicePlaces
    rw [if_neg (by decide)]
    by_cases h : (n : Int) - 1 > -1
    · rw [if_pos h]
      show ((((n : Int) - 1 - (-1) - 1) / (-(-1)) + 1).toNat) = n
      have : (-(-1 : Int)) = 1 := rfl
      rw [this, Int.ediv_one]
      omega
    · rw [if_neg h]
      omega
  show wpAny _ _ (pure ((n : Int) - 1, (-1 : Int), Builtin.Slice.slicePlaces ((n : Int) - 1) (-1) (-1))) _ _ s
  rw [e2]
  exact wpAny_pure h
theorem fm_map {α β : Type} {f : α → Option β} {g : α → β} : ∀ (l : List α), (∀ m ∈ l, f m = some (g m)) → l.filterMap f = l.map g
  | [], _ => rfl
  | a :: l, h => by
    rw [List.filterMap_cons, h a List.mem_cons_self, List.map_cons, fm_map l fun m hm => h m (List.mem_cons_of_mem _ hm)]
theorem pick_rev (xs : Array Value) : ((List.range xs.size).filterMap fun (m : Nat) => xs[(((xs.size : Int) - 1) + (m : Int) * (-1)).toNat]?).toArray = xs.toList.reverse.toArray := by
  congr 1
  refine List.ext_getElem? fun j => ?_
  have e : ∀ m, m < xs.size → xs[(((xs.size : Int) - 1) + (m : Int) * (-1)).toNat]? = some (xs.toList.reverse.getD m .none) := fun m hm => by
    have : (((xs.size : Int) - 1) + (m : Int) * (-1)).toNat = xs.size - 1 - m := by omega
    rw [this, List.getD_eq_getElem?_getD, List.getElem?_reverse (by simpa using hm)]
    simp only [Array.length_toList]
    have h2 : xs.size - 1 - m < xs.size := by omega
    simp [h2]
  have f : (List.range xs.size).filterMap (fun (m : Nat) => xs[(((xs.size : Int) - 1) + (m : Int) * (-1)).toNat]?) = (List.range xs.size).map fun m => xs.toList.reverse.getD m .none := by
    exact fm_map _ fun m hm => e m (List.mem_range.mp hm)
  rw [f]
  by_cases hj : j < xs.size
  · rw [List.getElem?_map, List.getElem?_range hj]
    show some (xs.toList.reverse.getD j .none) = _
    have : j < xs.toList.reverse.length := by simpa using hj
    rw [List.getD_eq_getElem?_getD, List.getElem?_eq_getElem this]
    rfl
  · rw [List.getElem?_eq_none (by simpa using hj), List.getElem?_eq_none (by simpa using hj)]
theorem getItem_tuple_rev {t sl : Addr} {items : Array Value} {vs : Value} {Q : Value → Shared → Prop} (ht : IsTup s.heap t items) (hs : s.heap.IsSliceOf sl .none .none vs) (ps : IsPart vs (some (-1)))
    (h : Q (.ref s.heap.objs.size) { s with heap := s.heap.push { cls := .type "tuple", data := .seq items.toList.reverse.toArray } })
    (hsz : items.size ≤ sizeLine) : wpAny (model prog w) A (getItem (.ref t) (.ref sl)) Q E s := by
  have htake : sizeOk (.seq items.toList.reverse.toArray) := by
    show items.toList.reverse.toArray.size ≤ sizeLine
    rw [List.size_toArray, List.length_reverse, Array.length_toList]
    exact hsz
  obtain ⟨os, hos, hcs, hds⟩ := id hs
  have hTs : s.TypeIs (.ref sl) "slice" := ⟨os, hos, hcs⟩
  unfold getItem
  try with_reducible refine wpAny_holding ?_
  first | refine wpAny_bind (wpAny_pure ?_) | skip
  refine wpAny_bind (wpAny_sequenceKey ht.typeIs (by decide) ?_)
  refine wpAny_bind (wpAny_callSpecial?_slot (name := Str.ofString "__getitem__") ht.typeIs PyProof.Rows.slot_tuple_getitem
    (wpAny_call_entry PyProof.Rows.slot_tuple_getitem ht.typeIs entry_tuple_getitem ?_ (args_tuple_getitem _ _)))
  show wpAny _ _ (Builtin.Tuple.tupleItemsOf (.ref t) >>= _) _ _ s
  refine wpAny_bind (tupleItemsOf_ ht ?_)
  refine wpAny_bind (wpAny_typeOf hTs ?_)
  rw [if_pos (by decide)]
  refine wpAny_bind (sliceApplied_rev hs ps ?_)
  have hno : ¬ (((((items.size : Int) - 1) == 0) && ((-1 : Int) == 1) && (items.size == items.size)) = true) := by
    intro q
    rw [Bool.and_eq_true, Bool.and_eq_true] at q
    exact absurd q.1.2 (by decide)
  show wpAny _ _ (if (((((items.size : Int) - 1) == 0) && ((-1 : Int) == 1) && (items.size == items.size)) = true) then _ else _) _ _ s
  rw [if_neg hno, pick_rev]
  first
    | exact wpAny_bind (m := Builtin.Tuple.tupleExact _) (wpAny_newObj_type (wpAny_pure ⟨_, rfl, wpAny_pure h⟩) htake)
    | exact wpAny_bind (m := Builtin.Tuple.tupleExact _) (wpAny_newObj_type (wpAny_bind (wpAny_pure (wpAny_pure ⟨_, rfl, wpAny_pure h⟩))) htake)
    | exact wpAny_bind (wpAny_bind (m := Builtin.Tuple.tupleExact _) (wpAny_newObj_type (wpAny_pure (wpAny_pure ⟨_, rfl, wpAny_pure h⟩)) htake))
    | exact wpAny_bind (wpAny_bind (m := Builtin.Tuple.tupleExact _) (wpAny_newObj_type (wpAny_pure ⟨_, rfl, wpAny_pure h⟩) htake))
end
/-- x[::-1] -/
def cRevS (K : PySem.W.Frag) (te : TE) : TE := fun σ H Q => te σ H fun x H1 => match x with
  | .ref a => (match look K H1 a with
    | some (.lst xs) => ∀ p, H1 p = none → Q (.ref p) (upd H1 p (.lst xs.reverse))
    | some (.tup xs) => ∀ p, H1 p = none → Q (.ref p) (upd H1 p (.tup xs.reverse))
    | _ => False)
  | _ => False
section
variable {X : Cx}
theorem pe_revS {e : Expr} {te : TE} {k : Nat} {p1 p2 p3 pos : Pos} (he : PE X e te) : PE X (.Subscript e (.Slice none none (some (.UnaryOp .USub (.Constant (.int 1) k p1) p2)) p3) pos) (cRevS X.K te) := by
  refine ⟨fun pins s σ H Q I h => ?_⟩
  refine Subscript_ (thn (he.run pins s σ H _ I h) fun v s1 ⟨x, H1, I1, r1, q1⟩ => ?_)
  dsimp only at q1
  split at q1
  · rename_i a
    cases r1
    have hst : PO X (some (.UnaryOp .USub (.Constant (.int 1) k p1) p2)) (tPart (tUn (rU fun i => .int (-i)) (tC (.int 1)))) := po_some (pe_un un_neg pe_int)
    refine wpAny_Slice (thn (po_none.run pins s1 σ H1 (fun o H2 => o = none ∧ H2 = H1) I1 ⟨rfl, rfl⟩) fun vl s2 ⟨l, H2, I2, pl, el, e2⟩ => ?_)
    subst el e2
    refine thn (po_none.run pins s2 σ H2 (fun o H3 => o = none ∧ H3 = H2) I2 ⟨rfl, rfl⟩) fun vu s3 ⟨u, H3, I3, pu, eu, e3⟩ => ?_
    subst eu e3
    refine thn (hst.run pins s3 σ H3 (fun o H4 => o = some (-1) ∧ H4 = H3) I3 ⟨1, rfl, -1, rfl, rfl, rfl⟩) fun vs s4 ⟨o, H4, I4, ps, eo, e4⟩ => ?_
    subst eo e4
    have I5 : Inv X pins σ H4 { s4 with heap := s4.heap.push { cls := .type "slice", data := .fields #[vl, vu, vs] } } := I4.kept (t' := s4.toks) fun b ob q => Heap.get?_push_of_some _ q
    cases pl
    cases pu
    split at q1
    · rename_i xs e
      obtain ⟨its, r, ht, hz⟩ := I5.list (look_lst e)
      have hlen := r.length
      show wpAny (model X.prog X.w) X.A (subscriptTail _ (.Slice none none (some (.UnaryOp .USub (.Constant (.int 1) k p1) p2)) p3) (.ref a) (.ref s4.heap.objs.size)) (EP X pins σ Q) X.xe { s4 with heap := s4.heap.push { cls := .type "slice", data := .fields #[.none, .none, vs] } }
      refine tail_any (ops := [.ref a, .ref s4.heap.objs.size]) ht.isList.typeIs (PySem.slot_list_getitem.lookup) ?_ (by with_unfolding_all rfl)
      refine wpAny_getItem_list_slice ht.isList (Heap.IsSliceOf.new _ .none .none vs) .none .none ps (by decide) ?_ (by rw [List.size_toArray]; omega)
      rw [PySem.W.krv_pick]
      refine ⟨.ref _, _, I5.laid (t' := s4.toks) (o := .lst xs.reverse) (fun b ob q => Heap.get?_push_of_some _ q) (Nat.le_refl _) ?_, rfl, q1 _ (I5.hok.fresh (Nat.le_refl _))⟩
      exact ⟨by rw [List.length_reverse]; exact hz, _, 0, r.reverse, Heap.get?_push_size _ rfl⟩
    · rename_i xs e
      obtain ⟨its, r, ht, hz⟩ := I5.tuple (look_tup e)
      have hlen := r.length
      show wpAny (model X.prog X.w) X.A (subscriptTail _ (.Slice none none (some (.UnaryOp .USub (.Constant (.int 1) k p1) p2)) p3) (.ref a) (.ref s4.heap.objs.size)) (EP X pins σ Q) X.xe { s4 with heap := s4.heap.push { cls := .type "slice", data := .fields #[.none, .none, vs] } }
      refine tail_any (ops := [.ref a, .ref s4.heap.objs.size]) ht.typeIs (PyProof.Rows.slot_tuple_getitem.lookup) ?_ (by with_unfolding_all rfl)
      refine getItem_tuple_rev ht (Heap.IsSliceOf.new _ .none .none vs) ps ?_ (by rw [List.size_toArray]; omega)
      refine ⟨.ref _, _, I5.laid (t' := s4.toks) (o := .tup xs.reverse) (fun b ob q => Heap.get?_push_of_some _ q) (Nat.le_refl _) ?_, rfl, q1 _ (I5.hok.fresh (Nat.le_refl _))⟩
      exact ⟨by rw [List.length_reverse]; exact hz, _, r.reverse, IsTup.new _ _⟩
    · exact q1.elim
  · exact q1.elim
end
end WR

set_option Elab.async false
set_option linter.all false
set_option maxRecDepth 100000
set_option maxHeartbeats 4000000
/-! min, max and sorted by a key that an own def tells -/
namespace WR
open PySem PySem.Spec PyProof.Rows L2
open PySem.W (alike dataLt rcLt_alike rcGt_alike AllAlike Sortable dataLe)
/-- all but tables stays -/
def ExN (H H' : Hp) : Prop := ∀ b o, H b = some o → (∀ ps, o ≠ .tbl ps) → H' b = some o
structure ExR (R : Hp → Hp → Prop) : Prop where
  refl : ∀ H, R H H
  trans : ∀ {a b c}, R a b → R b c → R a c
  ex : ∀ {a b}, R a b → ExN a b
theorem rd_exn {H H' : Hp} {a : Addr} {u : HO} (x : ExN H H') (hu : ∀ ps, u ≠ .tbl ps) (h : Rd H a u) : Rd H' a u := by
  rcases h with h | ⟨o, h⟩
  · exact .inl (x _ _ h hu)
  · exact .inr ⟨o, x _ _ h fun ps z => nomatch z⟩
theorem sqL_exn {K : PySem.W.Frag} {H H' : Hp} {a : Addr} {xs : List V} (x : ExN H H') (h : SqL K H a xs) : SqL K H' a xs := h.imp (rd_exn x fun ps z => nomatch z) id
theorem sqT_exn {K : PySem.W.Frag} {H H' : Hp} {a : Addr} {xs : List V} (x : ExN H H') (h : SqT K H a xs) : SqT K H' a xs := h.imp (rd_exn x fun ps z => nomatch z) id
mutual
theorem dp_exn {K : PySem.W.Frag} {H H' : Hp} (x : ExN H H') : ∀ {v : V} {d : PyData}, Dp K H v d → Dp K H' v d
  | _, _, .non => .non
  | _, _, .bl b => .bl b
  | _, _, .int i => .int i
  | _, _, .str s => .str s
  | _, _, .lst h ha => .lst (sqL_exn x h) (dpAll_exn x ha)
  | _, _, .tup h ha => .tup (sqT_exn x h) (dpAll_exn x ha)
theorem dpAll_exn {K : PySem.W.Frag} {H H' : Hp} (x : ExN H H') : ∀ {vs : List V} {ds : List PyData}, DpAll K H vs ds → DpAll K H' vs ds
  | _, _, .nil => .nil
  | _, _, .cons h ha => .cons (dp_exn x h) (dpAll_exn x ha)
end
/-- what is walked: a tuple or a list -/
def SrcOk (tp : Bool) (K : PySem.W.Frag) (H : Hp) (a : Addr) (xs : List V) : Prop := if tp = true then SqT K H a xs else SqL K H a xs
def IsIt (tp : Bool) (h : Heap) (it a : Addr) (i : Nat) : Prop := if tp = true then h.IsTupleIter it a i else h.IsListIter it a i
theorem isIt_at {tp : Bool} {h h' : Heap} {it a : Addr} {i : Nat} (st : IsIt tp h it a i) (k : ∀ o, h.get? it = some o → h'.get? it = some o) : IsIt tp h' it a i := by
  cases tp with
  | true => obtain ⟨o, e, c, d⟩ := st; exact ⟨o, k o e, c, d⟩
  | false => obtain ⟨o, e, c, d⟩ := st; exact ⟨o, k o e, c, d⟩
theorem isIt_obj {tp : Bool} {h : Heap} {it a : Addr} {i : Nat} (st : IsIt tp h it a i) : ∃ o, h.get? it = some o ∧ ∀ v, o.data ≠ .cell v := by
  cases tp with
  | true => obtain ⟨o, e, c, d⟩ := st; exact ⟨o, e, fun v z => by rw [d] at z; cases z⟩
  | false => obtain ⟨o, e, c, d⟩ := st; exact ⟨o, e, fun v z => by rw [d] at z; cases z⟩
theorem src_exn {tp : Bool} {K : PySem.W.Frag} {H H' : Hp} {a : Addr} {xs : List V} (x : ExN H H') (h : SrcOk tp K H a xs) : SrcOk tp K H' a xs := by
  cases tp with
  | true => exact sqT_exn x h
  | false => exact sqL_exn x h
section
variable {X : Cx} {pins : List (Addr × Obj)} {σ : St} {H : Hp} {s : Shared} {A : Around} {E : Value → Shared → Prop} {tp : Bool} {a it : Addr} {xs : List V} {i : Nat}
theorem src_item {x : V} {Q : Option Value → Shared → Prop} (I : Inv X pins σ H s) (hs : SrcOk tp X.K H a xs) (hx : xs[i]? = some x) (f : FpOk X pins H it) (st : IsIt tp s.heap it a i)
    (q : ∀ u h', RelV x u → IsIt tp h' it a (i + 1) → Heap.SameBut it s.heap h' → Inv X pins σ H { s with heap := h' } → Q (some u) { s with heap := h' }) : wpAny (model X.prog X.w) A (pyNext (.ref it)) Q E s := by
  obtain ⟨f0, f1, f2, f3, f4, f5⟩ := f
  cases tp with
  | true =>
    obtain ⟨its, rv, p, hz⟩ := I.tuple hs
    obtain ⟨u, hu, ru⟩ := rv.get hx
    exact wpAny_pyNext_tuple_item st (show s.heap.IsTuple a its.toArray from p) (x := u) (by simpa using hu) fun h' st' sb => q u h' ru st' sb (I.turned (t' := s.toks) (fun b o hb e => (sb.2 b hb).trans e) f0 f1 f3 f4 f5)
  | false =>
    obtain ⟨its, rv, p, hz⟩ := I.list hs
    obtain ⟨u, hu, ru⟩ := rv.get hx
    exact wpAny_pyNext_list_item st p.isList (x := u) (by simpa using hu) fun h' st' sb => q u h' ru st' sb (I.turned (t' := s.toks) (fun b o hb e => (sb.2 b hb).trans e) f0 f1 f3 f4 f5)
theorem src_end {Q : Option Value → Shared → Prop} (hh : A.handled = none) (I : Inv X pins σ H s) (hs : SrcOk tp X.K H a xs) (hx : xs.length ≤ i) (f : FpOk X pins H it) (st : IsIt tp s.heap it a i)
    (q : ∀ h', Heap.ExtBut it s.heap h' → Inv X pins σ H { s with heap := h' } → Q none { s with heap := h' }) : wpAny (model X.prog X.w) A (pyNext (.ref it)) Q E s := by
  obtain ⟨f0, f1, f2, f3, f4, f5⟩ := f
  cases tp with
  | true =>
    obtain ⟨its, rv, p, hz⟩ := I.tuple hs
    have hl := rv.length
    exact wpAny_pyNext_tuple_end hh st (show s.heap.IsTuple a its.toArray from p) (by simp; omega) fun h' eb => q h' eb (I.turned (t' := s.toks) (fun b o hb e => eb b o hb e) f0 f1 f3 f4 f5)
  | false =>
    obtain ⟨its, rv, p, hz⟩ := I.list hs
    have hl := rv.length
    exact wpAny_pyNext_list_end hh st p.isList (by simp; omega) fun h' eb => q h' eb (I.turned (t' := s.toks) (fun b o hb e => eb b o hb e) f0 f1 f3 f4 f5)
theorem src_iter {Q : Value → Shared → Prop} (I : Inv X pins σ H s) (hs : SrcOk tp X.K H a xs) (q : ∀ s' it, IsIt tp s'.heap it a 0 → FpOk X pins H it → it < s'.heap.objs.size → Inv X pins σ H s' → Q (.ref it) s') : wpAny (model X.prog X.w) A (pyIter (.ref a)) Q E s := by
  cases tp with
  | true =>
    obtain ⟨its, rv, p, hz⟩ := I.tuple hs
    refine wpAny_pyIter_tuple (show s.heap.IsTuple a its.toArray from p) (q _ _ ⟨_, Heap.get?_push_size _ rfl, rfl, rfl⟩ (I.fpOk (Nat.le_refl _) (I.hok.fresh (Nat.le_refl _))) ?_ (I.kept (t' := s.toks) fun b o e => Heap.get?_push_of_some _ e))
    show _ < (s.heap.push _).objs.size
    rw [Heap.size_push]; exact Nat.lt_succ_self _
  | false =>
    obtain ⟨its, rv, p, hz⟩ := I.list hs
    refine wpAny_pyIter_list p.isList (q _ _ ⟨_, Heap.get?_push_size _ rfl, rfl, rfl⟩ (I.fpOk (Nat.le_refl _) (I.hok.fresh (Nat.le_refl _))) ?_ (I.kept (t' := s.toks) fun b o e => Heap.get?_push_of_some _ e))
    show _ < (s.heap.push _).objs.size
    rw [Heap.size_push]; exact Nat.lt_succ_self _
end
/-- which of two is taken -/
def btV (mx : Bool) (d : V → PyData) (xs : List V) (i j : Nat) : Bool := if mx = true then dataLt (d (xs.getD j .non)) (d (xs.getD i .non)) else dataLt (d (xs.getD i .non)) (d (xs.getD j .non))
/-- the first greatest, the first least -/
def bestV (mx : Bool) (d : V → PyData) (xs : List V) : V := xs.getD (argBest (btV mx d xs) (xs.length - 1)) .non
theorem argBest_le (bt : Nat → Nat → Bool) : ∀ j, argBest bt j ≤ j
  | 0 => Nat.le_refl _
  | j + 1 => by
    have := argBest_le bt j
    unfold argBest
    split <;> omega
theorem getD_mem {xs : List V} {i : Nat} (h : i < xs.length) : xs[i]? = some (xs.getD i .non) ∧ xs.getD i .non ∈ xs := by
  have e : xs.getD i .non = xs[i] := by simp [h]
  rw [e]
  exact ⟨by simp [h], List.getElem_mem h⟩

section
variable {X : Cx} {pins : List (Addr × Obj)} {σ : St} {H0 : Hp} {A : Around} {tp : Bool} {a it S q : Addr} {xs : List V} {d : V → PyData} {R : Hp → Hp → Prop} {Rr : Result → Shared → Prop}
theorem min_upd {H : Hp} {s : Shared} {o : Obj} {vs : Array Value} {c : Nat} (I : Inv X pins σ H s) (f : FpOk X pins H S) (hS : s.heap.get? S = some { cls := .type "list", dict := none, data := .seq vs c, slots := #[] }) (ws : Array Value) :
    Inv X pins σ H { s with heap := s.heap.update S (Obj.mapSeq fun _ => ws), toks := s.toks } := by
  obtain ⟨f0, f1, f2, f3, f4, f5⟩ := f
  exact I.turned (t' := s.toks) (fun b o hb e => (Heap.get?_update_other _ _ (fun z => hb z.symm)).trans e) f0 f1 f3 f4 f5
theorem min_loopJ (exr : ExR R) (hh : A.handled = none) (src : SrcOk tp X.K H0 a xs) (hal : ∀ x ∈ xs, ∀ y ∈ xs, alike (d x) (d y) = true) (hnn : ∀ x ∈ xs, d x ≠ .none) (hdp : ∀ x ∈ xs, A.units + 1 + (d x).depth < cLine)
    (hcall : ∀ (pins' : List (Addr × Obj)) (H : Hp) (s : Shared) (x : V) (u : Value) (E : Value → Shared → Prop), x ∈ xs → RelV x u → R H0 H → Inv X pins' σ H s → wpAny (model X.prog X.w) A.in1 (call (.ref q) [u]) (EP X pins' σ fun y H2 => R H H2 ∧ Dp X.K H2 y (d x)) E s)
    (kw : List (Str × Value)) (hne : S ≠ it) :
    ∀ (k j : Nat) (s : Shared) (H : Hp) (vb kb : Value) (c : Nat), xs.length - (j + 1) = k → j + 1 ≤ xs.length → Inv X pins σ H s → R H0 H → IsIt tp s.heap it a (j + 1) → FpOk X pins H it → FpOk X pins H S →
    RelV (xs.getD (argBest (btV false d xs) j) .non) vb → (∃ y, RelV y kb ∧ Dp X.K H y (d (xs.getD (argBest (btV false d xs) j) .non))) →
    s.heap.get? S = some { cls := .type "list", dict := none, data := .seq #[vb, kb] c, slots := #[] } →
    (∀ v s' H', Inv X pins σ H' s' → R H0 H' → RelV (bestV false d xs) v → Rr (.ok (.ret v)) s') → codeAny (model X.prog X.w) A (.builtin "min.loop" ⟨[.ref it, (.ref q), .ref S], kw⟩) Rr s := by
  have hname : (toString "min" ++ toString ".loop" : String) = "min.loop" := by decide
  have hh1 : A.in1.handled = none := hh
  intro k
  induction k with
  | zero =>
    intro j s H vb kb c hk hj I r st fi fS hvb hkb hS hR
    have hin : j + 1 = xs.length := by omega
    refine codeAny_builtin F.entry_min_loop ?_
    rw [Around.under_plainId F.plain_min_loop _]
    show wpAny _ A.in1 (seqItems? (.ref S) >>= _) _ _ s
    refine wpAny_bind (wpAny_seqItems hS rfl ?_)
    show wpAny _ A.in1 (tryCatch (pyNext (.ref it)) _ >>= _) _ _ s
    refine wpAny_bind (wpAny_tryCatch (src_end hh1 I (src_exn (exr.ex r) src) (by omega) fi st fun h' eb I' => ?_))
    have hS' : h'.get? S = some { cls := .type "list", dict := none, data := .seq #[vb, kb] c, slots := #[] } := eb S _ hne hS
    show wpAny _ A.in1 (updateSeq S (fun _ => #[]) >>= _) _ _ _
    refine wpAny_bind ?_
    refine wpAny_updateSeq hS' rfl (wpAny_bind (wpAny_letGo (wpAny_pure ?_)))
    refine hR vb _ H (min_upd (o := { cls := .none }) I' fS hS' #[]) r ?_
    unfold bestV
    rw [← hin]
    exact hvb
  | succ k ih =>
    intro j s H vb kb c hk hj I r st fi fS hvb hkb hS hR
    have hlt : j + 1 < xs.length := by omega
    obtain ⟨hx, hxm⟩ := getD_mem hlt
    have hbl : argBest (btV false d xs) j < xs.length := Nat.lt_of_le_of_lt (argBest_le _ j) (by omega)
    obtain ⟨_, hbm⟩ := getD_mem hbl
    refine codeAny_builtin F.entry_min_loop ?_
    rw [Around.under_plainId F.plain_min_loop _]
    show wpAny _ A.in1 (seqItems? (.ref S) >>= _) _ _ s
    refine wpAny_bind (wpAny_seqItems hS rfl ?_)
    show wpAny _ A.in1 (tryCatch (pyNext (.ref it)) _ >>= _) _ _ s
    refine wpAny_bind (wpAny_tryCatch (src_item I (src_exn (exr.ex r) src) hx fi st fun v h' ru st' sb I' => ?_))
    have hS' : h'.get? S = some { cls := .type "list", dict := none, data := .seq #[vb, kb] c, slots := #[] } := (sb.2 S hne).trans hS
    obtain ⟨oi, hoi, hdi⟩ := isIt_obj st'
    have Ip := I'.pinned (fp := [S, it]) (fun b hb => by
      simp only [List.mem_cons, List.not_mem_nil, or_false] at hb
      rcases hb with rfl | rfl
      · exact fS
      · exact fi) (fun b hb => by
      simp only [List.mem_cons, List.not_mem_nil, or_false] at hb
      rcases hb with rfl | rfl
      · exact ⟨_, hS', fun v z => nomatch z⟩
      · exact ⟨oi, hoi, hdi⟩)
    show wpAny _ A.in1 (tryCatch (holding [v] (call (.ref q) [v])) _ >>= _) _ _ _
    refine wpAny_bind (wpAny_tryCatch (wpAny_holding (wpAny_mono (hcall _ H _ _ v (fun _ _ => False) hxm ru r Ip) (fun kx s'' hq => ?_) fun _ _ z => z.elim)))
    obtain ⟨y, H2, I2, ry, r2, dy⟩ := hq
    have pS := I2.pin (S, _) (List.mem_append_right _ (List.mem_append_right _ (mem_pinsAt (List.mem_cons_self) hS')))
    have pI := I2.pin (it, oi) (List.mem_append_right _ (List.mem_append_right _ (mem_pinsAt (List.mem_cons_of_mem _ List.mem_cons_self) hoi)))
    have hS2 : s''.heap.get? S = some { cls := .type "list", dict := none, data := .seq #[vb, kb] c, slots := #[] } := pS.1
    have st2 : IsIt tp s''.heap it a (j + 1 + 1) := isIt_at st' fun o e => by
      have e' : h'.get? it = some o := e
      rw [hoi] at e'; cases e'
      exact pI.1
    have fS2 : FpOk X pins H2 S := ⟨pS.2.1, fS.2⟩
    have fi2 : FpOk X pins H2 it := ⟨pI.2.1, fi.2⟩
    have I3 := I2.unpinned
    have rr := exr.trans r r2
    obtain ⟨yb, rb, db⟩ := hkb
    have db2 := dp_exn (exr.ex r2) db
    obtain ⟨as1, re1⟩ := Dp.reads I3 _ y kx dy ry
    obtain ⟨as2, re2⟩ := Dp.reads I3 _ yb kb db2 rb
    have cmp : Ob.RcOp .Lt A.in1 s'' kx kb (btV false d xs (j + 1) (argBest (btV false d xs) j)) := by
      unfold btV
      simp only [Bool.false_eq_true, if_false]
      refine rcLt_alike _ _ A.in1 s'' kx kb as1 as2 re1 re2 (hal _ hxm _ hbm) (hnn _ hxm) ?_
      have := hdp _ hxm
      have := Nat.min_le_left (d (xs.getD (j + 1) .non)).depth (d (xs.getD (argBest (btV false d xs) j) .non)).depth
      show A.units + 1 + _ < _
      omega
    show wpAny _ A.in1 (tryCatch (holding [v, kx] (richCompare .Lt kx kb >>= _)) _ >>= _) _ _ _
    refine wpAny_bind (wpAny_tryCatch (wpAny_holding (wpAny_bind (cmp X.prog X.w _ _ ?_))))
    refine wpAny_bind (wpAny_holding (wpAny_truthy_bool ?_))
    refine wpAny_bind (wpAny_letGo (wpAny_pure ?_))
    cases hb : btV false d xs (j + 1) (argBest (btV false d xs) j) with
    | true =>
      simp only [if_true]
      refine wpAny_bind ?_
      refine wpAny_updateSeq hS2 rfl (wpAny_bind (wpAny_letGo ?_))
      rw [hname]
      refine wpAny_pure ⟨plainId_quiet F.plain_min_loop _, ih (j + 1) _ H2 v kx _ (by omega) hlt (min_upd (o := { cls := .none }) I3 fS2 hS2 #[v, kx]) rr (isIt_at st2 fun o e => (Heap.get?_update_other _ _ hne).trans e) fi2 fS2 (by simp only [argBest, hb, if_true]; exact ru) ⟨y, ry, by simp only [argBest, hb, if_true]; exact dy⟩ (Heap.get?_update_self _ hS2 rfl) hR⟩
    | false =>
      simp only [Bool.false_eq_true, if_false]
      refine wpAny_bind (wpAny_letGo ?_)
      rw [hname]
      exact wpAny_pure ⟨plainId_quiet F.plain_min_loop _, ih (j + 1) _ H2 vb kb c (by omega) hlt I3 rr st2 fi2 fS2 (by simp only [argBest, hb, Bool.false_eq_true, if_false]; exact hvb) ⟨yb, rb, by simp only [argBest, hb, Bool.false_eq_true, if_false]; exact db2⟩ hS2 hR⟩
theorem min_firstJ (exr : ExR R) (hh : A.handled = none) (src : SrcOk tp X.K H0 a xs) (hal : ∀ x ∈ xs, ∀ y ∈ xs, alike (d x) (d y) = true) (hnn : ∀ x ∈ xs, d x ≠ .none) (hdp : ∀ x ∈ xs, A.units + 1 + (d x).depth < cLine)
    (hcall : ∀ (pins' : List (Addr × Obj)) (H : Hp) (s : Shared) (x : V) (u : Value) (E : Value → Shared → Prop), x ∈ xs → RelV x u → R H0 H → Inv X pins' σ H s → wpAny (model X.prog X.w) A.in1 (call (.ref q) [u]) (EP X pins' σ fun y H2 => R H H2 ∧ Dp X.K H2 y (d x)) E s)
    (kw : List (Str × Value)) (hne : S ≠ it) {s : Shared} {c : Nat} (hx0 : xs ≠ []) (I : Inv X pins σ H0 s) (st : IsIt tp s.heap it a 0) (fi : FpOk X pins H0 it) (fS : FpOk X pins H0 S)
    (hS : s.heap.get? S = some { cls := .type "list", dict := none, data := .seq #[] c, slots := #[] })
    (hR : ∀ v s' H', Inv X pins σ H' s' → R H0 H' → RelV (bestV false d xs) v → Rr (.ok (.ret v)) s') : codeAny (model X.prog X.w) A (.builtin "min.loop" ⟨[.ref it, (.ref q), .ref S], kw⟩) Rr s := by
  have hname : (toString "min" ++ toString ".loop" : String) = "min.loop" := by decide
  have hlt : 0 < xs.length := List.length_pos_iff.mpr hx0
  obtain ⟨hx, hxm⟩ := getD_mem hlt
  refine codeAny_builtin F.entry_min_loop ?_
  rw [Around.under_plainId F.plain_min_loop _]
  show wpAny _ A.in1 (seqItems? (.ref S) >>= _) _ _ s
  refine wpAny_bind (wpAny_seqItems hS rfl ?_)
  show wpAny _ A.in1 (tryCatch (pyNext (.ref it)) _ >>= _) _ _ s
  refine wpAny_bind (wpAny_tryCatch (src_item I src hx fi st fun v h' ru st' sb I' => ?_))
  have hS' : h'.get? S = some { cls := .type "list", dict := none, data := .seq #[] c, slots := #[] } := (sb.2 S hne).trans hS
  obtain ⟨oi, hoi, hdi⟩ := isIt_obj st'
  have Ip := I'.pinned (fp := [S, it]) (fun b hb => by
    simp only [List.mem_cons, List.not_mem_nil, or_false] at hb
    rcases hb with rfl | rfl
    · exact fS
    · exact fi) (fun b hb => by
    simp only [List.mem_cons, List.not_mem_nil, or_false] at hb
    rcases hb with rfl | rfl
    · exact ⟨_, hS', fun v z => nomatch z⟩
    · exact ⟨oi, hoi, hdi⟩)
  show wpAny _ A.in1 (tryCatch (holding [v] (call (.ref q) [v])) _ >>= _) _ _ _
  refine wpAny_bind (wpAny_tryCatch (wpAny_holding (wpAny_mono (hcall _ H0 _ _ v (fun _ _ => False) hxm ru (exr.refl _) Ip) (fun kx s'' hq => ?_) fun _ _ z => z.elim)))
  obtain ⟨y, H2, I2, ry, r2, dy⟩ := hq
  have pS := I2.pin (S, _) (List.mem_append_right _ (List.mem_append_right _ (mem_pinsAt (List.mem_cons_self) hS')))
  have pI := I2.pin (it, oi) (List.mem_append_right _ (List.mem_append_right _ (mem_pinsAt (List.mem_cons_of_mem _ List.mem_cons_self) hoi)))
  have hS2 : s''.heap.get? S = some { cls := .type "list", dict := none, data := .seq #[] c, slots := #[] } := pS.1
  have st2 : IsIt tp s''.heap it a (0 + 1) := isIt_at st' fun o e => by
    have e' : h'.get? it = some o := e
    rw [hoi] at e'; cases e'
    exact pI.1
  have fS2 : FpOk X pins H2 S := ⟨pS.2.1, fS.2⟩
  have fi2 : FpOk X pins H2 it := ⟨pI.2.1, fi.2⟩
  have I3 := I2.unpinned
  show wpAny _ A.in1 (updateSeq S (fun _ => #[v, kx]) >>= _) _ _ _
  refine wpAny_bind ?_
  refine wpAny_updateSeq hS2 rfl ?_
  rw [hname]
  exact wpAny_pure ⟨plainId_quiet F.plain_min_loop _, min_loopJ exr hh src hal hnn hdp hcall kw hne _ 0 _ H2 v kx _ rfl hlt (min_upd (o := { cls := .none }) I3 fS2 hS2 #[v, kx]) r2 (isIt_at st2 fun o e => (Heap.get?_update_other _ _ hne).trans e) fi2 fS2 ru ⟨y, ry, dy⟩ (Heap.get?_update_self _ hS2 rfl) hR⟩
end
section
variable {X : Cx} {pins : List (Addr × Obj)} {σ : St} {H : Hp} {s : Shared} {tp : Bool} {a q : Addr} {xs : List V} {d : V → PyData} {R : Hp → Hp → Prop} {E : Value → Shared → Prop} {Q : VK}
/-- min(x, key=f) -/
theorem call_minJ (exr : ExR R) (hh : X.A.handled = none) (src : SrcOk tp X.K H a xs) (hal : ∀ x ∈ xs, ∀ y ∈ xs, alike (d x) (d y) = true) (hnn : ∀ x ∈ xs, d x ≠ .none) (hdp : ∀ x ∈ xs, X.A.units + 1 + (d x).depth < cLine)
    (hcall : ∀ (pins' : List (Addr × Obj)) (H' : Hp) (s : Shared) (x : V) (u : Value) (E : Value → Shared → Prop), x ∈ xs → RelV x u → R H H' → Inv X pins' σ H' s → wpAny (model X.prog X.w) X.A.in1 (call (.ref q) [u]) (EP X pins' σ fun y H2 => R H' H2 ∧ Dp X.K H2 y (d x)) E s)
    (hx0 : xs ≠ []) (I : Inv X pins σ H s) (hQ : ∀ H', R H H' → Q (bestV false d xs) H') : wpAny (model X.prog X.w) X.A (call (.builtin "min") [.ref a] [(Str.ofString "key", .ref q)]) (EP X pins σ Q) E s := by
  have hname : (toString "min" ++ toString ".loop" : String) = "min.loop" := by decide
  refine PyProof.Rows.kmk_tree F.kind_min F.plain_min F.entry_min (PyProof.Rows.kmk_min_key _ _) ?_
  show wpAny _ X.A.in1 (Builtin.Builtins.bindParams "min" ["key", "default"] 0 ⟨[], [(Str.ofString "key", .ref q)]⟩ >>= _) _ _ s
  refine wpAny_bind (wpAny_of_eq (show Builtin.Builtins.bindParams "min" ["key", "default"] 0 ⟨[], [(Str.ofString "key", .ref q)]⟩ = pure [some (.ref q), none] from rfl) ?_)
  refine wpAny_bind (wpAny_pure ?_)
  refine wpAny_bind (src_iter I src fun s₂ it st fi hlt I2 => ?_)
  refine wpAny_bind (wpAny_newObj_type ?_)
  rw [hname]
  have fS : FpOk X pins H s₂.heap.objs.size := I2.fpOk (Nat.le_refl _) (I2.hok.fresh (Nat.le_refl _))
  have hne : s₂.heap.objs.size ≠ it := fun z => Nat.lt_irrefl _ (z ▸ hlt)
  have I3 : Inv X pins σ H { s₂ with heap := s₂.heap.push { cls := .type "list", data := .seq #[] 0 }, toks := s₂.toks } := I2.kept (t' := s₂.toks) fun b o e => Heap.get?_push_of_some _ e
  exact wpAny_pure ⟨plainId_quiet F.plain_min_loop _, min_firstJ (S := s₂.heap.objs.size) exr hh src hal hnn hdp hcall _ hne hx0 I3 (isIt_at st fun o e => Heap.get?_push_of_some _ e) fi fS (Heap.get?_push_size _ rfl) fun v s' H' I' r' rv => ⟨_, H', I', rv, hQ H' r'⟩⟩
end

section
variable {X : Cx} {pins : List (Addr × Obj)} {σ : St} {H0 : Hp} {A : Around} {tp : Bool} {a it S q : Addr} {xs : List V} {d : V → PyData} {R : Hp → Hp → Prop} {Rr : Result → Shared → Prop}
theorem max_upd {H : Hp} {s : Shared} {o : Obj} {vs : Array Value} {c : Nat} (I : Inv X pins σ H s) (f : FpOk X pins H S) (hS : s.heap.get? S = some { cls := .type "list", dict := none, data := .seq vs c, slots := #[] }) (ws : Array Value) :
    Inv X pins σ H { s with heap := s.heap.update S (Obj.mapSeq fun _ => ws), toks := s.toks } := by
  obtain ⟨f0, f1, f2, f3, f4, f5⟩ := f
  exact I.turned (t' := s.toks) (fun b o hb e => (Heap.get?_update_other _ _ (fun z => hb z.symm)).trans e) f0 f1 f3 f4 f5
theorem max_loopJ (exr : ExR R) (hh : A.handled = none) (src : SrcOk tp X.K H0 a xs) (hal : ∀ x ∈ xs, ∀ y ∈ xs, alike (d x) (d y) = true) (hnn : ∀ x ∈ xs, d x ≠ .none) (hdp : ∀ x ∈ xs, A.units + 1 + (d x).depth < cLine)
    (hcall : ∀ (pins' : List (Addr × Obj)) (H : Hp) (s : Shared) (x : V) (u : Value) (E : Value → Shared → Prop), x ∈ xs → RelV x u → R H0 H → Inv X pins' σ H s → wpAny (model X.prog X.w) A.in1 (call (.ref q) [u]) (EP X pins' σ fun y H2 => R H H2 ∧ Dp X.K H2 y (d x)) E s)
    (kw : List (Str × Value)) (hne : S ≠ it) :
    ∀ (k j : Nat) (s : Shared) (H : Hp) (vb kb : Value) (c : Nat), xs.length - (j + 1) = k → j + 1 ≤ xs.length → Inv X pins σ H s → R H0 H → IsIt tp s.heap it a (j + 1) → FpOk X pins H it → FpOk X pins H S →
    RelV (xs.getD (argBest (btV true d xs) j) .non) vb → (∃ y, RelV y kb ∧ Dp X.K H y (d (xs.getD (argBest (btV true d xs) j) .non))) →
    s.heap.get? S = some { cls := .type "list", dict := none, data := .seq #[vb, kb] c, slots := #[] } →
    (∀ v s' H', Inv X pins σ H' s' → R H0 H' → RelV (bestV true d xs) v → Rr (.ok (.ret v)) s') → codeAny (model X.prog X.w) A (.builtin "max.loop" ⟨[.ref it, (.ref q), .ref S], kw⟩) Rr s := by
  have hname : (toString "max" ++ toString ".loop" : String) = "max.loop" := by decide
  have hh1 : A.in1.handled = none := hh
  intro k
  induction k with
  | zero =>
    intro j s H vb kb c hk hj I r st fi fS hvb hkb hS hR
    have hin : j + 1 = xs.length := by omega
    refine codeAny_builtin F.entry_max_loop ?_
    rw [Around.under_plainId F.plain_max_loop _]
    show wpAny _ A.in1 (seqItems? (.ref S) >>= _) _ _ s
    refine wpAny_bind (wpAny_seqItems hS rfl ?_)
    show wpAny _ A.in1 (tryCatch (pyNext (.ref it)) _ >>= _) _ _ s
    refine wpAny_bind (wpAny_tryCatch (src_end hh1 I (src_exn (exr.ex r) src) (by omega) fi st fun h' eb I' => ?_))
    have hS' : h'.get? S = some { cls := .type "list", dict := none, data := .seq #[vb, kb] c, slots := #[] } := eb S _ hne hS
    show wpAny _ A.in1 (updateSeq S (fun _ => #[]) >>= _) _ _ _
    refine wpAny_bind ?_
    refine wpAny_updateSeq hS' rfl (wpAny_bind (wpAny_letGo (wpAny_pure ?_)))
    refine hR vb _ H (max_upd (o := { cls := .none }) I' fS hS' #[]) r ?_
    unfold bestV
    rw [← hin]
    exact hvb
  | succ k ih =>
    intro j s H vb kb c hk hj I r st fi fS hvb hkb hS hR
    have hlt : j + 1 < xs.length := by omega
    obtain ⟨hx, hxm⟩ := getD_mem hlt
    have hbl : argBest (btV true d xs) j < xs.length := Nat.lt_of_le_of_lt (argBest_le _ j) (by omega)
    obtain ⟨_, hbm⟩ := getD_mem hbl
    refine codeAny_builtin F.entry_max_loop ?_
    rw [Around.under_plainId F.plain_max_loop _]
    show wpAny _ A.in1 (seqItems? (.ref S) >>= _) _ _ s
    refine wpAny_bind (wpAny_seqItems hS rfl ?_)
    show wpAny _ A.in1 (tryCatch (pyNext (.ref it)) _ >>= _) _ _ s
    refine wpAny_bind (wpAny_tryCatch (src_item I (src_exn (exr.ex r) src) hx fi st fun v h' ru st' sb I' => ?_))
    have hS' : h'.get? S = some { cls := .type "list", dict := none, data := .seq #[vb, kb] c, slots := #[] } := (sb.2 S hne).trans hS
    obtain ⟨oi, hoi, hdi⟩ := isIt_obj st'
    have Ip := I'.pinned (fp := [S, it]) (fun b hb => by
      simp only [List.mem_cons, List.not_mem_nil, or_false] at hb
      rcases hb with rfl | rfl
      · exact fS
      · exact fi) (fun b hb => by
      simp only [List.mem_cons, List.not_mem_nil, or_false] at hb
      rcases hb with rfl | rfl
      · exact ⟨_, hS', fun v z => nomatch z⟩
      · exact ⟨oi, hoi, hdi⟩)
    show wpAny _ A.in1 (tryCatch (holding [v] (call (.ref q) [v])) _ >>= _) _ _ _
    refine wpAny_bind (wpAny_tryCatch (wpAny_holding (wpAny_mono (hcall _ H _ _ v (fun _ _ => False) hxm ru r Ip) (fun kx s'' hq => ?_) fun _ _ z => z.elim)))
    obtain ⟨y, H2, I2, ry, r2, dy⟩ := hq
    have pS := I2.pin (S, _) (List.mem_append_right _ (List.mem_append_right _ (mem_pinsAt (List.mem_cons_self) hS')))
    have pI := I2.pin (it, oi) (List.mem_append_right _ (List.mem_append_right _ (mem_pinsAt (List.mem_cons_of_mem _ List.mem_cons_self) hoi)))
    have hS2 : s''.heap.get? S = some { cls := .type "list", dict := none, data := .seq #[vb, kb] c, slots := #[] } := pS.1
    have st2 : IsIt tp s''.heap it a (j + 1 + 1) := isIt_at st' fun o e => by
      have e' : h'.get? it = some o := e
      rw [hoi] at e'; cases e'
      exact pI.1
    have fS2 : FpOk X pins H2 S := ⟨pS.2.1, fS.2⟩
    have fi2 : FpOk X pins H2 it := ⟨pI.2.1, fi.2⟩
    have I3 := I2.unpinned
    have rr := exr.trans r r2
    obtain ⟨yb, rb, db⟩ := hkb
    have db2 := dp_exn (exr.ex r2) db
    obtain ⟨as1, re1⟩ := Dp.reads I3 _ y kx dy ry
    obtain ⟨as2, re2⟩ := Dp.reads I3 _ yb kb db2 rb
    have cmp : Ob.RcOp .Gt A.in1 s'' kx kb (btV true d xs (j + 1) (argBest (btV true d xs) j)) := by
      unfold btV
      simp only [if_true]
      refine rcGt_alike _ _ A.in1 s'' kx kb as1 as2 re1 re2 (hal _ hxm _ hbm) (hnn _ hxm) ?_
      have := hdp _ hxm
      have := Nat.min_le_left (d (xs.getD (j + 1) .non)).depth (d (xs.getD (argBest (btV true d xs) j) .non)).depth
      show A.units + 1 + _ < _
      omega
    show wpAny _ A.in1 (tryCatch (holding [v, kx] (richCompare .Gt kx kb >>= _)) _ >>= _) _ _ _
    refine wpAny_bind (wpAny_tryCatch (wpAny_holding (wpAny_bind (cmp X.prog X.w _ _ ?_))))
    refine wpAny_bind (wpAny_holding (wpAny_truthy_bool ?_))
    refine wpAny_bind (wpAny_letGo (wpAny_pure ?_))
    cases hb : btV true d xs (j + 1) (argBest (btV true d xs) j) with
    | true =>
      simp only [if_true]
      refine wpAny_bind ?_
      refine wpAny_updateSeq hS2 rfl (wpAny_bind (wpAny_letGo ?_))
      rw [hname]
      refine wpAny_pure ⟨plainId_quiet F.plain_max_loop _, ih (j + 1) _ H2 v kx _ (by omega) hlt (max_upd (o := { cls := .none }) I3 fS2 hS2 #[v, kx]) rr (isIt_at st2 fun o e => (Heap.get?_update_other _ _ hne).trans e) fi2 fS2 (by simp only [argBest, hb, if_true]; exact ru) ⟨y, ry, by simp only [argBest, hb, if_true]; exact dy⟩ (Heap.get?_update_self _ hS2 rfl) hR⟩
    | false =>
      simp only [Bool.false_eq_true, if_false]
      refine wpAny_bind (wpAny_letGo ?_)
      rw [hname]
      exact wpAny_pure ⟨plainId_quiet F.plain_max_loop _, ih (j + 1) _ H2 vb kb c (by omega) hlt I3 rr st2 fi2 fS2 (by simp only [argBest, hb, Bool.false_eq_true, if_false]; exact hvb) ⟨yb, rb, by simp only [argBest, hb, Bool.false_eq_true, if_false]; exact db2⟩ hS2 hR⟩
theorem max_firstJ (exr : ExR R) (hh : A.handled = none) (src : SrcOk tp X.K H0 a xs) (hal : ∀ x ∈ xs, ∀ y ∈ xs, alike (d x) (d y) = true) (hnn : ∀ x ∈ xs, d x ≠ .none) (hdp : ∀ x ∈ xs, A.units + 1 + (d x).depth < cLine)
    (hcall : ∀ (pins' : List (Addr × Obj)) (H : Hp) (s : Shared) (x : V) (u : Value) (E : Value → Shared → Prop), x ∈ xs → RelV x u → R H0 H → Inv X pins' σ H s → wpAny (model X.prog X.w) A.in1 (call (.ref q) [u]) (EP X pins' σ fun y H2 => R H H2 ∧ Dp X.K H2 y (d x)) E s)
    (kw : List (Str × Value)) (hne : S ≠ it) {s : Shared} {c : Nat} (hx0 : xs ≠ []) (I : Inv X pins σ H0 s) (st : IsIt tp s.heap it a 0) (fi : FpOk X pins H0 it) (fS : FpOk X pins H0 S)
    (hS : s.heap.get? S = some { cls := .type "list", dict := none, data := .seq #[] c, slots := #[] })
    (hR : ∀ v s' H', Inv X pins σ H' s' → R H0 H' → RelV (bestV true d xs) v → Rr (.ok (.ret v)) s') : codeAny (model X.prog X.w) A (.builtin "max.loop" ⟨[.ref it, (.ref q), .ref S], kw⟩) Rr s := by
  have hname : (toString "max" ++ toString ".loop" : String) = "max.loop" := by decide
  have hlt : 0 < xs.length := List.length_pos_iff.mpr hx0
  obtain ⟨hx, hxm⟩ := getD_mem hlt
  refine codeAny_builtin F.entry_max_loop ?_
  rw [Around.under_plainId F.plain_max_loop _]
  show wpAny _ A.in1 (seqItems? (.ref S) >>= _) _ _ s
  refine wpAny_bind (wpAny_seqItems hS rfl ?_)
  show wpAny _ A.in1 (tryCatch (pyNext (.ref it)) _ >>= _) _ _ s
  refine wpAny_bind (wpAny_tryCatch (src_item I src hx fi st fun v h' ru st' sb I' => ?_))
  have hS' : h'.get? S = some { cls := .type "list", dict := none, data := .seq #[] c, slots := #[] } := (sb.2 S hne).trans hS
  obtain ⟨oi, hoi, hdi⟩ := isIt_obj st'
  have Ip := I'.pinned (fp := [S, it]) (fun b hb => by
    simp only [List.mem_cons, List.not_mem_nil, or_false] at hb
    rcases hb with rfl | rfl
    · exact fS
    · exact fi) (fun b hb => by
    simp only [List.mem_cons, List.not_mem_nil, or_false] at hb
    rcases hb with rfl | rfl
    · exact ⟨_, hS', fun v z => nomatch z⟩
    · exact ⟨oi, hoi, hdi⟩)
  show wpAny _ A.in1 (tryCatch (holding [v] (call (.ref q) [v])) _ >>= _) _ _ _
  refine wpAny_bind (wpAny_tryCatch (wpAny_holding (wpAny_mono (hcall _ H0 _ _ v (fun _ _ => False) hxm ru (exr.refl _) Ip) (fun kx s'' hq => ?_) fun _ _ z => z.elim)))
  obtain ⟨y, H2, I2, ry, r2, dy⟩ := hq
  have pS := I2.pin (S, _) (List.mem_append_right _ (List.mem_append_right _ (mem_pinsAt (List.mem_cons_self) hS')))
  have pI := I2.pin (it, oi) (List.mem_append_right _ (List.mem_append_right _ (mem_pinsAt (List.mem_cons_of_mem _ List.mem_cons_self) hoi)))
  have hS2 : s''.heap.get? S = some { cls := .type "list", dict := none, data := .seq #[] c, slots := #[] } := pS.1
  have st2 : IsIt tp s''.heap it a (0 + 1) := isIt_at st' fun o e => by
    have e' : h'.get? it = some o := e
    rw [hoi] at e'; cases e'
    exact pI.1
  have fS2 : FpOk X pins H2 S := ⟨pS.2.1, fS.2⟩
  have fi2 : FpOk X pins H2 it := ⟨pI.2.1, fi.2⟩
  have I3 := I2.unpinned
  show wpAny _ A.in1 (updateSeq S (fun _ => #[v, kx]) >>= _) _ _ _
  refine wpAny_bind ?_
  refine wpAny_updateSeq hS2 rfl ?_
  rw [hname]
  exact wpAny_pure ⟨plainId_quiet F.plain_max_loop _, max_loopJ exr hh src hal hnn hdp hcall kw hne _ 0 _ H2 v kx _ rfl hlt (max_upd (o := { cls := .none }) I3 fS2 hS2 #[v, kx]) r2 (isIt_at st2 fun o e => (Heap.get?_update_other _ _ hne).trans e) fi2 fS2 ru ⟨y, ry, dy⟩ (Heap.get?_update_self _ hS2 rfl) hR⟩
end
section
variable {X : Cx} {pins : List (Addr × Obj)} {σ : St} {H : Hp} {s : Shared} {tp : Bool} {a q : Addr} {xs : List V} {d : V → PyData} {R : Hp → Hp → Prop} {E : Value → Shared → Prop} {Q : VK}
/-- max(x, key=f) -/
theorem call_maxJ (exr : ExR R) (hh : X.A.handled = none) (src : SrcOk tp X.K H a xs) (hal : ∀ x ∈ xs, ∀ y ∈ xs, alike (d x) (d y) = true) (hnn : ∀ x ∈ xs, d x ≠ .none) (hdp : ∀ x ∈ xs, X.A.units + 1 + (d x).depth < cLine)
    (hcall : ∀ (pins' : List (Addr × Obj)) (H' : Hp) (s : Shared) (x : V) (u : Value) (E : Value → Shared → Prop), x ∈ xs → RelV x u → R H H' → Inv X pins' σ H' s → wpAny (model X.prog X.w) X.A.in1 (call (.ref q) [u]) (EP X pins' σ fun y H2 => R H' H2 ∧ Dp X.K H2 y (d x)) E s)
    (hx0 : xs ≠ []) (I : Inv X pins σ H s) (hQ : ∀ H', R H H' → Q (bestV true d xs) H') : wpAny (model X.prog X.w) X.A (call (.builtin "max") [.ref a] [(Str.ofString "key", .ref q)]) (EP X pins σ Q) E s := by
  have hname : (toString "max" ++ toString ".loop" : String) = "max.loop" := by decide
  refine PyProof.Rows.kmk_tree F.kind_max F.plain_max F.entry_max (PyProof.Rows.kmk_max_key _ _) ?_
  show wpAny _ X.A.in1 (Builtin.Builtins.bindParams "max" ["key", "default"] 0 ⟨[], [(Str.ofString "key", .ref q)]⟩ >>= _) _ _ s
  refine wpAny_bind (wpAny_of_eq (show Builtin.Builtins.bindParams "max" ["key", "default"] 0 ⟨[], [(Str.ofString "key", .ref q)]⟩ = pure [some (.ref q), none] from rfl) ?_)
  refine wpAny_bind (wpAny_pure ?_)
  refine wpAny_bind (src_iter I src fun s₂ it st fi hlt I2 => ?_)
  refine wpAny_bind (wpAny_newObj_type ?_)
  rw [hname]
  have fS : FpOk X pins H s₂.heap.objs.size := I2.fpOk (Nat.le_refl _) (I2.hok.fresh (Nat.le_refl _))
  have hne : s₂.heap.objs.size ≠ it := fun z => Nat.lt_irrefl _ (z ▸ hlt)
  have I3 : Inv X pins σ H { s₂ with heap := s₂.heap.push { cls := .type "list", data := .seq #[] 0 }, toks := s₂.toks } := I2.kept (t' := s₂.toks) fun b o e => Heap.get?_push_of_some _ e
  exact wpAny_pure ⟨plainId_quiet F.plain_max_loop _, max_firstJ (S := s₂.heap.objs.size) exr hh src hal hnn hdp hcall _ hne hx0 I3 (isIt_at st fun o e => Heap.get?_push_of_some _ e) fi fS (Heap.get?_push_size _ rfl) fun v s' H' I' r' rv => ⟨_, H', I', rv, hQ H' r'⟩⟩
end
end WR

set_option Elab.async false
set_option linter.all false
set_option maxRecDepth 100000
set_option maxHeartbeats 4000000
/-! `<` of data, list.count of truths, a starred target of two, min and max by an own key -/
namespace WR
open PySem PySem.Spec PyProof.Rows L2
open PySem.W (alike dataLt rcLt_alike rcGt_alike AllAlike Sortable dataLe)
/-- x < y of alike data -/
def rLtD (K : PySem.W.Frag) : R2 := fun x y H Q => ∃ d e, Dp K H x d ∧ Dp K H y e ∧ alike d e = true ∧ d ≠ .none ∧ d.depth ≤ 60 ∧ Q (.bl (dataLt d e)) H
def oLtK (K : PySem.W.Frag) : R2 := fun x y H Q => match x, y with
  | .int i, .int j => Q (.bl (decide (i < j))) H
  | .str a, .str b => Q (.bl (decide (a.cps.toList < b.cps.toList))) H
  | _, _ => rLtD K x y H Q
theorem op_ltD {X : Cx} (hu : X.A.units + 65 < cLine) : OpR X (compareOp .Lt) (rLtD X.K) := by
  intro pins s σ H x y v u Q I rx ry h
  obtain ⟨d, e, hd, he, al, nn, dp, q⟩ := h
  obtain ⟨as, r1⟩ := Dp.reads I d x v hd rx
  obtain ⟨bs, r2⟩ := Dp.reads I e y u he ry
  have := rcLt_alike d e X.A s v u as bs r1 r2 al nn (by have := Nat.min_le_left d.depth e.depth; omega)
  exact this X.prog X.w _ _ ⟨.bl _, H, I, rfl, q⟩
theorem r_ltK {X : Cx} (hu : X.A.units + 65 < cLine) : OpR X (compareOp .Lt) (oLtK X.K) := by
  intro pins s σ H x y v u Q I rx ry h
  unfold oLtK at h
  split at h
  · exact r_lt pins s σ H _ _ v u Q I rx ry h
  · exact r_lt pins s σ H _ _ v u Q I rx ry h
  · exact op_ltD hu pins s σ H _ _ v u Q I rx ry h
/-- target, *target = a list or a tuple -/
def cStarG (K : PySem.W.Frag) (t : TGs) : TG := fun v σ H Q => ∃ a x xs tp, v = .ref a ∧ SrcOk tp K H a (x :: xs) ∧ xs.length < 16000 ∧ ∀ D, H D = none → t [x, .ref D] σ (upd H D (.lst xs)) Q
section
variable {X : Cx} {pins : List (Addr × Obj)} {σ : St} {H : Hp} {s : Shared}
theorem star_unpack {E : Value → Shared → Prop} {Q : List Value → Shared → Prop} {tp : Bool} {a : Addr} {x : V} {xs : List V} (hh : X.A.handled = none) (I : Inv X pins σ H s) (hs : SrcOk tp X.K H a (x :: xs)) (hz : xs.length < 16000)
    (q : ∀ u D s', RelV x u → H D = none → Inv X pins σ (upd H D (.lst xs)) s' → Q [u, .ref D] s') : wpAny (model X.prog X.w) X.A (unpackItems (.ref a) 2 (some 1)) Q E s := by
  have hsl := sizeLine_eq
  have fin : ∀ (u : Value) (us : List Value) (h₂ : Heap) (tk : _), RelV x u → Vals xs us → (∀ b o, s.heap.get? b = some o → h₂.get? b = some o) →
      wpAny (model X.prog X.w) X.A (newList us >>= fun d => pure ([u] ++ [d] ++ [])) Q E { s with heap := h₂, toks := tk } := by
    intro u us h₂ tk ru rus hk
    have I1 : Inv X pins σ H { s with heap := h₂, toks := tk } := I.kept (t' := tk) hk
    refine wpAny_bind (wpAny_newList ?_ (by have := rus.length; omega))
    have hf : H h₂.objs.size = none := I1.hok.fresh (Nat.le_refl _)
    exact wpAny_pure (q u h₂.objs.size _ ru hf (I1.laid (t' := tk) (fun b o e => Heap.get?_push_of_some _ e) (Nat.le_refl _) ⟨by omega, us, 0, rus, Heap.get?_push_size _ rfl⟩))
  cases tp with
  | false =>
    obtain ⟨its, rv, p, hz2⟩ := I.list hs
    cases rv with
    | cons ru rus =>
      rename_i u us
      have hl : s.heap.IsList a (u :: us).toArray := p.isList
      have hlt : a ≠ s.heap.objs.size := by obtain ⟨o, ho, _⟩ := hl; exact Nat.ne_of_lt (Heap.lt_size ho)
      have hul := rus.length
      unfold unpackItems
      refine wpAny_bind ?_
      unfold notIterableAtAll
      refine wpAny_bind (wpAny_specialOf hl.typeIs slot_list_iter.lookup ?_)
      refine wpAny_pure ?_
      simp only [Bool.false_eq_true, if_false]
      refine wpAny_bind (wpAny_holding (wpAny_pyIter_list hl ?_))
      refine wpAny_bind (wpAny_holding (PySem.W.kun_draw hlt 1 0 _ _ ⟨_, Heap.get?_push_size _ rfl, rfl, rfl⟩ (hl.push _) (by simp) fun h₁ hit₁ hs₁ => ?_))
      have hl₁ : h₁.IsList a (u :: us).toArray := (hl.push _).extBut hs₁.extBut hlt
      have hit₁' := hit₁
      obtain ⟨oi, hoi, _⟩ := hit₁'
      have hl₁' := hl₁
      obtain ⟨ol, hol, _⟩ := hl₁'
      rw [List.drop_zero]
      rw [if_neg (show ¬ (((u :: us).toArray.toList.take 1).length < 1) by simp)]
      refine wpAny_bind (wpAny_holding (PySem.W.kun_collect (s := { s with heap := h₁ }) (T := "list_iterator") (.inr (.inr (.inl rfl))) (Walks.list (A := X.A.in1) hh s.heap.objs.size a hlt (u :: us).toArray) (fun j u st => st.1.typeIs) (k := 1) (by simp) ⟨hit₁, hl₁⟩ (Heap.lt_size hoi) (Heap.lt_size hol) (fun h₂ tk hk => ?_) (by simp; omega)))
      show wpAny _ _ (if us.length < 0 then _ else _) _ _ _
      rw [if_neg (Nat.not_lt_zero _)]
      show wpAny _ _ (newList (us.take (us.length - 0)) >>= fun d => pure ([u] ++ [d] ++ us.drop (us.length - 0))) _ _ _
      rw [Nat.sub_zero, List.take_length, List.drop_length]
      have he : ∀ b o, s.heap.get? b = some o → h₂.get? b = some o := fun b o e => hk b o (Nat.ne_of_lt (Heap.lt_size e)) (hs₁.extBut b o (Nat.ne_of_lt (Heap.lt_size e)) (Heap.get?_push_of_some _ e))
      exact fin u us h₂ tk ru rus he
  | true =>
    obtain ⟨its, rv, p, hz2⟩ := I.tuple hs
    cases rv with
    | cons ru rus =>
      rename_i u us
      have hl : IsTup s.heap a (u :: us).toArray := p
      have hlt : a ≠ s.heap.objs.size := by obtain ⟨o, ho, _⟩ := hl; exact Nat.ne_of_lt (Heap.lt_size ho)
      have hul := rus.length
      unfold unpackItems
      refine wpAny_bind ?_
      unfold notIterableAtAll
      refine wpAny_bind (wpAny_specialOf hl.typeIs slot_tuple_iter.lookup ?_)
      refine wpAny_pure ?_
      simp only [Bool.false_eq_true, if_false]
      refine wpAny_bind (wpAny_holding (iter_tuple hl ?_))
      refine wpAny_bind (wpAny_holding (draw_tuple hlt 1 0 _ _ ⟨_, Heap.get?_push_size _ rfl, rfl, rfl⟩ (hl.push _) (by simp) fun h₁ hit₁ hs₁ => ?_))
      have hl₁ : IsTup h₁ a (u :: us).toArray := (hl.push _).extBut hs₁.extBut hlt
      have hit₁' := hit₁
      obtain ⟨oi, hoi, _⟩ := hit₁'
      have hl₁' := hl₁
      obtain ⟨ol, hol, _⟩ := hl₁'
      rw [List.drop_zero]
      rw [if_neg (show ¬ (((u :: us).toArray.toList.take 1).length < 1) by simp)]
      refine wpAny_bind (wpAny_holding (PySem.W.kun_collect (s := { s with heap := h₁ }) (T := "tuple_iterator") (.inr (.inr (.inr rfl))) (Walks.tuple (A := X.A.in1) hh s.heap.objs.size a hlt (u :: us).toArray) (fun j u st => st.1.typeIs) (k := 1) (by simp) ⟨hit₁, hl₁⟩ (Heap.lt_size hoi) (Heap.lt_size hol) (fun h₂ tk hk => ?_) (by simp; omega)))
      show wpAny _ _ (if us.length < 0 then _ else _) _ _ _
      rw [if_neg (Nat.not_lt_zero _)]
      show wpAny _ _ (newList (us.take (us.length - 0)) >>= fun d => pure ([u] ++ [d] ++ us.drop (us.length - 0))) _ _ _
      rw [Nat.sub_zero, List.take_length, List.drop_length]
      have he : ∀ b o, s.heap.get? b = some o → h₂.get? b = some o := fun b o e => hk b o (Nat.ne_of_lt (Heap.lt_size e)) (hs₁.extBut b o (Nat.ne_of_lt (Heap.lt_size e)) (Heap.get?_push_of_some _ e))
      exact fin u us h₂ tk ru rus he
end
/-- max(x, key=f), min(x, key=f): f an own def -/
def cKeyed (K : PySem.W.Frag) (mx : Bool) (sp : Sp) (arr : List V → List V → List V) (te : TE) : TE := fun σ H Q => te σ H fun x H1 => ∃ (a : Addr) (xs : List V) (d : V → PyData) (R : Hp → Hp → Prop) (tp : Bool),
  x = .ref a ∧ SrcOk tp K H1 a xs ∧ ExR R ∧ (∀ x ∈ xs, ∀ y ∈ xs, alike (d x) (d y) = true) ∧ (∀ x ∈ xs, d x ≠ .none ∧ (d x).depth ≤ 60) ∧ xs ≠ [] ∧
  (∀ x ∈ xs, ∀ H', R H1 H' → sp (arr [x] []) H' (fun y H2 => R H' H2 ∧ Dp K H2 y (d x)) (fun _ _ _ => False)) ∧ ∀ H', R H1 H' → Q (bestV mx d xs) H'
theorem pe_keyed {g : G} {lev : Nat} {X : Cx} {N : List Str} {sc : Scope} {W : WX} (c : COk g lev X N sc W) (mx : Bool) {i : FnI} (hi : i ∈ g.fns) (hn : i.n = 1) (hks : i.ks = []) {x : Str} (hx : x = if mx = true then "max" else "min") (hg : Gl X x) (hm : X.mg x = none)
    (hk1 : Gl X i.name) (hk2 : plainName i.name = true) {p kp kpos pos : Pos} {e : Expr} {te : TE} (hst : notStar e = true) (he : PE X e te) :
    PE X (.Call (.Name x p) [e] [⟨some "key", .Name i.name kp, kpos⟩] pos) (cKeyed g.K mx i.sp i.arr te) := by
  obtain ⟨fa, fd, ps, gf, m1, m2, F, kb⟩ := c.gok.fns i hi
  rw [← c.hK] at m2 F kb
  rw [hn, hks] at kb
  rw [← c.hK]
  have hun := c.room.un
  have hx1 : plainName x = true := by cases mx <;> (subst hx; decide)
  have hv : bootBuiltins x = some (.builtin (if mx = true then "max" else "min")) := by cases mx <;> (subst hx; first | exact PyProof.Rows.Boot.max | exact PyProof.Rows.Boot.min)
  refine ⟨fun pins s σ H Q I h => ?_⟩
  refine wpAny_Call_Name_kw (ld_blt I hg hm hv ?_ (plain_n hx1) (plain_d hx1))
  refine args_of (first := []) (t := tCons te tNil) (tk := tCons (tC (.ref fa)) tNil) (R := fun vs zs H2 => zs = [.ref fa] ∧ ∃ (a : Addr) (xs : List V) (d : V → PyData) (R : Hp → Hp → Prop) (tp : Bool),
    vs = [.ref a] ∧ SrcOk tp X.K H2 a xs ∧ ExR R ∧ (∀ x ∈ xs, ∀ y ∈ xs, alike (d x) (d y) = true) ∧ (∀ x ∈ xs, d x ≠ .none ∧ (d x).depth ≤ 60) ∧ xs ≠ [] ∧
    (∀ x ∈ xs, ∀ H', R H2 H' → i.sp (i.arr [x] []) H' (fun y H3 => R H' H3 ∧ Dp X.K H3 y (d x)) (fun _ _ _ => False)) ∧ ∀ H', R H2 H' → Q (bestV mx d xs) H') keeps_blt (fun z => nomatch z) (by rw [List.all_cons, hst]; rfl) rfl (pa_cons he pa_nil (by cases e <;> first | rfl | exact absurd hst Bool.false_ne_true)) (pk_cons (pe_glob hk1 m1 rfl (plain_d hk2)) pk_nil) I ?_ fun vs zs us ws s2 H2 I2 r rz q => ?_
  · refine Eq.mp (congrArg (te σ H) (funext fun x => funext fun H1 => propext ⟨fun q => ?_, fun q => ?_⟩)) h
    · obtain ⟨a, xs, d, R, tp, rfl, q⟩ := q
      exact ⟨rfl, a, xs, d, R, tp, rfl, q⟩
    · obtain ⟨_, a, xs, d, R, tp, e1, q⟩ := q
      cases e1
      exact ⟨a, xs, d, R, tp, rfl, q⟩
  · obtain ⟨rfl, a, xs, d, R, tp, rfl, src, exr, al, nd, hx0, hc, hQ⟩ := q
    obtain ⟨u, rfl, ru⟩ := vals1 r
    obtain ⟨w, rfl, rw⟩ := vals1 rz
    obtain rfl : u = Value.ref a := ru
    obtain rfl : w = Value.ref fa := rw
    have hcall : ∀ (pins' : List (Addr × Obj)) (H' : Hp) (s : Shared) (x : V) (u : Value) (E : Value → Shared → Prop), x ∈ xs → RelV x u → R H2 H' → Inv X pins' σ H' s → wpAny (model X.prog X.w) X.A.in1 (call (.ref fa) [u]) (EP X pins' σ fun y H3 => R H' H3 ∧ Dp X.K H3 y (d x)) E s :=
      fun pins' H' s x u E hx ru hR I' => run_below (A := X.A.in1) c.room.in1 c.gd rfl F kb I' (.cons ru .nil) rfl (hc x hx H' hR)
    cases mx with
    | true => exact call_maxJ exr c.room.hd src al (fun x hx => (nd x hx).1) (fun x hx => by have := (nd x hx).2; omega) hcall hx0 I2 hQ
    | false => exact call_minJ exr c.room.hd src al (fun x hx => (nd x hx).1) (fun x hx => by have := (nd x hx).2; omega) hcall hx0 I2 hQ
end WR

set_option Elab.async false
set_option linter.all false
set_option maxRecDepth 100000
set_option maxHeartbeats 1000000
/-! list(enumerate(l)) -/
namespace WR
open PySem PySem.Spec PyProof.Rows L2

/-- pairs told by their places -/
def EnP (H : Hp) (xs : List V) (ts : List Addr) : Prop := ∀ j t, ts[j]? = some t → ∃ x, xs[j]? = some x ∧ H t = some (.tup [.int (j : Nat), x])
theorem EnP.ex {H H' : Hp} {xs : List V} {ts : List Addr} (x : ∀ b o, H b = some o → H' b = some o) (h : EnP H xs ts) : EnP H' xs ts := fun j t e => by
  obtain ⟨y, a, b⟩ := h j t e
  exact ⟨y, a, x _ _ b⟩
def EnSt (h : Heap) (e it S : Addr) (i : Nat) : Prop := (∃ old, IsEnum h e it (i : Int) old) ∨ ∃ old T f oT, IsEnumHeld h e it (i : Int) old T f ∧ h.get? T = some oT ∧ T ≠ e ∧ T ≠ it ∧ T ≠ S
theorem EnSt.keep {h h' : Heap} {e it S : Addr} {i : Nat} (st : EnSt h e it S i) (eS : e ≠ S) (k : ∀ b o, b ≠ S → h.get? b = some o → h'.get? b = some o) : EnSt h' e it S i := by
  rcases st with ⟨old, a⟩ | ⟨old, T, f, oT, a, b, c, d, g⟩
  · exact .inl ⟨old, k _ _ eS a⟩
  · exact .inr ⟨old, T, f, oT, k _ _ eS a, k _ _ g b, c, d, g⟩
section
variable {X : Cx} {pins : List (Addr × Obj)} {σ : St} {H0 H : Hp} {s : Shared} {A : Around} {a e it S : Addr} {xs : List V} {R : Result → Shared → Prop}
theorem fp_upd {b n : Addr} {o : HO} (f : FpOk X pins H b) (h : b ≠ n) : FpOk X pins (upd H n o) b := ⟨by rw [upd_ne h]; exact f.1, f.2⟩
theorem en_item {i : Nat} {x : V} {E : Value → Shared → Prop} {Q : Option Value → Shared → Prop} (I : Inv X pins σ H s) (hq : SqL X.K H a xs) (hx : xs[i]? = some x) (st : EnSt s.heap e it S i) (hit : s.heap.IsListIter it a i) (hne : e ≠ it) (hS : S < s.heap.objs.size)
    (fe : FpOk X pins H e) (fi : FpOk X pins H it)
    (q : ∀ h' , Inv X pins σ (upd H s.heap.objs.size (.tup [.int (i : Nat), x])) { s with heap := h', toks := s.toks + 1 } → EnSt h' e it S (i + 1) → h'.IsListIter it a (i + 1) → h'.objs.size = s.heap.objs.size + 1 → (∀ b o, b ≠ e → b ≠ it → s.heap.get? b = some o → h'.get? b = some o) →
      Q (some (.ref s.heap.objs.size)) { s with heap := h', toks := s.toks + 1 }) : wpAny (model X.prog X.w) A (pyNext (.ref e)) Q E s := by
  obtain ⟨its, rv, p, hz⟩ := I.list hq
  obtain ⟨u, hu, ru⟩ := rv.get hx
  have hil : it < s.heap.objs.size := by obtain ⟨_, q, _⟩ := hit; exact Heap.lt_size q
  have hf : ∀ b ∈ [e, it], FpOk X pins H b := fun b hb => by
    have : b = e ∨ b = it := by simpa using hb
    rcases this with rfl | rfl
    · exact fe
    · exact fi
  have fin : ∀ h', h'.get? s.heap.objs.size = some { cls := .type "tuple", data := .seq #[.int i s.toks, u] } → (∀ b o, b ≠ e → b ≠ it → s.heap.get? b = some o → h'.get? b = some o) → Inv X pins σ (upd H s.heap.objs.size (.tup [.int (i : Nat), x])) { s with heap := h', toks := s.toks + 1 } := fun h' hT hk =>
    I.turnedNew (ch := [e, it]) (fun b ob hb q => hk b ob (fun z => hb (by simp [z])) (fun z => hb (by simp [z])) q) hf (Nat.le_refl _) ⟨by show 2 ≤ sizeLine; decide, [.int i s.toks, u], .cons ⟨_, rfl⟩ (.cons ru .nil), ⟨_, hT, rfl, _, rfl⟩⟩
  have ec : ((i + 1 : Nat) : Int) = (i : Int) + 1 := by omega
  rcases st with ⟨old, he⟩ | ⟨old, T, f, oT, he, hT, c, d, g⟩
  · have hel : e < s.heap.objs.size := Heap.lt_size he
    refine wpAny_pyNext_enum_item he hit p.isList (x := u) (by simpa using hu) hne fun h' ho hit' hT hsz hk => q h' (fin h' hT hk) (.inr ⟨u, s.heap.objs.size, false, _, by rw [ec]; exact ho, hT, Nat.ne_of_gt hel, Nat.ne_of_gt hil, Nat.ne_of_gt hS⟩) hit' hsz hk
  · refine wpAny_pyNext_enum_item_held he hT c d hit p.isList (x := u) (by simpa using hu) hne fun h' ho hit' hT' hsz hk => q h' (fin h' hT' hk) (.inr ⟨old, T, true, oT, by rw [ec]; exact ho, hk T oT c d hT, c, d, g⟩) hit' hsz hk
theorem en_done {i : Nat} {E : Value → Shared → Prop} {Q : Option Value → Shared → Prop} (hh : A.handled = none) (I : Inv X pins σ H s) (hq : SqL X.K H a xs) (hx : xs.length ≤ i) (st : EnSt s.heap e it S i) (hit : s.heap.IsListIter it a i)
    (fi : FpOk X pins H it) (q : ∀ h', Heap.ExtBut it s.heap h' → Inv X pins σ H { s with heap := h' } → Q none { s with heap := h' }) : wpAny (model X.prog X.w) A (pyNext (.ref e)) Q E s := by
  obtain ⟨its, rv, p, hz⟩ := I.list hq
  have hl := rv.length
  obtain ⟨f0, f1, f2, f3, f4, f5⟩ := fi
  have fin : ∀ h', Heap.ExtBut it s.heap h' → Q none { s with heap := h' } := fun h' eb => q h' eb (I.turned (t' := s.toks) (fun b o hb e => eb b o hb e) f0 f1 f3 f4 f5)
  rcases st with ⟨old, he⟩ | ⟨old, T, f, oT, he, hT, c, d, g⟩
  · exact wpAny_pyNext_enum_end hh he hit p.isList (by simp; omega) fin
  · exact wpAny_pyNext_enum_end_held hh he hit p.isList (by simp; omega) fin
theorem en_loop (hh : A.handled = none) (hq : SqL X.K H0 a xs) (hlen : xs.length ≤ 100000) (hne : e ≠ it) (eS : e ≠ S) (iS : it ≠ S) (res : Value)
    (hR : ∀ s' H' acc c ts, Inv X pins σ H' s' → (∀ b o, H0 b = some o → H' b = some o) → FpOk X pins H' S → s'.heap.get? S = some { cls := .type "list", dict := none, data := .seq acc c, slots := #[] } → acc.toList = ts.map Value.ref → ts.length = xs.length → EnP H' xs ts → R (.ok (.ret res)) s') :
    ∀ (k i : Nat) (s : Shared) (H : Hp) (acc : Array Value) (c : Nat) (ts : List Addr), xs.length - i = k → i ≤ xs.length → Inv X pins σ H s → (∀ b o, H0 b = some o → H b = some o) → EnSt s.heap e it S i → s.heap.IsListIter it a i → FpOk X pins H e → FpOk X pins H it → FpOk X pins H S →
    s.heap.get? S = some { cls := .type "list", dict := none, data := .seq acc c, slots := #[] } → acc.toList = ts.map Value.ref → ts.length = i → EnP H xs ts → codeAny (model X.prog X.w) A (.builtin "list.extend.loop" ⟨[.ref S, .ref e, res], []⟩) R s := by
  have hsl := sizeLine_eq
  intro k
  induction k with
  | zero =>
    intro i s H acc c ts hk hi I ex st hit fe fi fS hS hacc hts ep
    refine codeAny_builtin PySem.F.entry_extend_loop ?_
    rw [Around.under_plainId PySem.F.plain_extend_loop _]
    show wpAny _ A.in1 (pyNext (.ref e) >>= _) _ _ _
    refine wpAny_bind (en_done (S := S) (A := A.in1) hh I ((sqL_exn (fun b o q _ => ex b o q) hq)) (by omega) st hit fi fun h' eb I' => ?_)
    exact wpAny_pure (hR _ H acc c ts I' ex fS (eb S _ iS.symm hS) hacc (by omega) ep)
  | succ k ih =>
    intro i s H acc c ts hk hi I ex st hit fe fi fS hS hacc hts ep
    have hlt : i < xs.length := by omega
    have hx : xs[i]? = some xs[i] := List.getElem?_eq_getElem hlt
    have hSl : S < s.heap.objs.size := Heap.lt_size hS
    have hn : H s.heap.objs.size = none := I.hok.fresh (Nat.le_refl _)
    have hsz : acc.size = i := by rw [← Array.length_toList, hacc, List.length_map, hts]
    have hil : it < s.heap.objs.size := by obtain ⟨_, q, _⟩ := hit; exact Heap.lt_size q
    have hel : e < s.heap.objs.size := by
      rcases st with ⟨_, a⟩ | ⟨_, _, _, _, a, _⟩ <;> exact Heap.lt_size a
    refine codeAny_builtin PySem.F.entry_extend_loop ?_
    rw [Around.under_plainId PySem.F.plain_extend_loop _]
    show wpAny _ A.in1 (pyNext (.ref e) >>= _) _ _ _
    refine wpAny_bind (en_item (S := S) (A := A.in1) I ((sqL_exn (fun b o q _ => ex b o q) hq)) hx st hit hne hSl fe fi fun h' I' st' hit' hsz' hk' => ?_)
    have hS' : h'.get? S = some { cls := .type "list", dict := none, data := .seq acc c, slots := #[] } := hk' S _ eS.symm iS.symm hS
    have new : ∀ b o, H b = some o → upd H s.heap.objs.size (.tup [.int (i : Nat), xs[i]]) b = some o := fun b o q => by rw [upd_ne (fun z => by rw [z, hn] at q; cases q)]; exact q
    have fS' : FpOk X pins (upd H s.heap.objs.size (.tup [.int (i : Nat), xs[i]])) S := fp_upd fS (Nat.ne_of_lt hSl)
    show wpAny _ A.in1 (updateSeq S (·.push (Value.ref s.heap.objs.size)) >>= _) _ _ _
    refine wpAny_bind ?_
    obtain ⟨f0, f1, f2, f3, f4, f5⟩ := id fS'
    have oth : ∀ b o, b ≠ S → h'.get? b = some o → (h'.update S (Obj.mapSeq (·.push (Value.ref s.heap.objs.size)))).get? b = some o := fun b o hb q => (Heap.get?_update_other _ _ (fun z => hb z.symm)).trans q
    have I2 := I'.turned (it := S) (h' := h'.update S (Obj.mapSeq (·.push (Value.ref s.heap.objs.size)))) (t' := s.toks + 1) (fun b o hb q => oth b o hb q) f0 f1 f3 f4 f5
    refine wpAny_updateSeq hS' rfl (wpAny_pure ⟨plainId_quiet PySem.F.plain_extend_loop _, ih (i + 1) _ _ (acc.push (Value.ref s.heap.objs.size)) _ (ts ++ [s.heap.objs.size]) (by omega) hlt I2 (fun b o q => new b o (ex b o q)) (st'.keep eS oth) (hit'.at fun o q => oth it o iS q) (fp_upd fe (Nat.ne_of_lt hel)) (fp_upd fi (Nat.ne_of_lt hil)) fS'
      (Heap.get?_update_self _ hS' rfl) (by rw [Array.toList_push, hacc, List.map_append]; rfl) (by rw [List.length_append, hts]; rfl) (fun j t hj => ?_)⟩) (by rw [hsz]; omega) (by show (acc.push _).size ≤ sizeLine + 1; rw [Array.size_push, hsz]; omega)
    rcases Nat.lt_trichotomy j ts.length with h1 | h1 | h1
    · rw [List.getElem?_append_left h1] at hj
      obtain ⟨y, e1, e2⟩ := ep j t hj
      exact ⟨y, e1, new _ _ e2⟩
    · subst h1
      have hb : s.heap.objs.size = t := by simpa using hj
      subst hb
      rw [hts]
      exact ⟨_, hx, upd_same⟩
    · rw [List.getElem?_eq_none (by rw [List.length_append, List.length_singleton]; omega)] at hj
      cases hj
end
theorem en_nolen : typeLookup (.type "enumerate") "__len__" = pure none := by rw [typeLookup_type, builtinLookup_eq_fast]; kernel_rfl
theorem en_nohint : typeLookup (.type "enumerate") "__length_hint__" = pure none := by rw [typeLookup_type, builtinLookup_eq_fast]; kernel_rfl
theorem en_hint {prog : Program} {w : World} {A : Around} {E : Value → Shared → Prop} {s : Shared} {r : Addr} (hT : s.TypeIs (.ref r) "enumerate") {Q : Bool → Shared → Prop} (h : Q true s) : wpAny (model prog w) A (Builtin.List.listLengthHint (.ref r)) Q E s := by
  unfold Builtin.List.listLengthHint
  refine wpAny_bind (wpAny_specialOf hT en_nolen ?_)
  show wpAny _ A (specialOf (Value.ref r) (Str.ofString "__length_hint__") >>= _) _ _ _
  refine wpAny_bind (wpAny_specialOf hT en_nohint ?_)
  exact wpAny_pure h
section
variable {X : Cx} {pins : List (Addr × Obj)} {σ : St} {H : Hp} {s : Shared} {A : Around} {a e it S : Addr} {xs : List V} {R : Result → Shared → Prop}
/-- what stands behind list(enumerate(l)) -/
def EnEnd (X : Cx) (pins : List (Addr × Obj)) (σ : St) (H : Hp) (S : Addr) (xs : List V) (s' : Shared) : Prop := ∃ H' acc c ts, Inv X pins σ H' s' ∧ (∀ b o, H b = some o → H' b = some o) ∧ FpOk X pins H' S ∧ s'.heap.get? S = some { cls := .type "list", dict := none, data := .seq acc c, slots := #[] } ∧ acc.toList = ts.map Value.ref ∧ ts.length = xs.length ∧ EnP H' xs ts
theorem s_upd {o : Obj} {vs ws : Array Value} {c c' : Nat} (I : Inv X pins σ H s) (f : FpOk X pins H S) (g : Array Value → Array Value) : Inv X pins σ H { s with heap := s.heap.update S (Obj.mapSeq g), toks := s.toks } := by
  obtain ⟨f0, f1, f2, f3, f4, f5⟩ := f
  exact I.turned (t' := s.toks) (fun b o hb e => (Heap.get?_update_other _ _ (fun z => hb z.symm)).trans e) f0 f1 f3 f4 f5
theorem en_extend (hh : A.handled = none) (I : Inv X pins σ H s) (hq : SqL X.K H a xs) (hlen : xs.length ≤ 100000) (hne : e ≠ it) (eS : e ≠ S) (iS : it ≠ S) (fe : FpOk X pins H e) (fi : FpOk X pins H it) (fS : FpOk X pins H S) {c₀ : Nat}
    (he : IsEnum s.heap e it 0 .none) (hit : s.heap.IsListIter it a 0) (hS : s.heap.get? S = some { cls := .type "list", dict := none, data := .seq #[] c₀, slots := #[] }) (res : Value) (hR : ∀ s', EnEnd X pins σ H S xs s' → R (.ok (.ret res)) s') :
    wpAny (model X.prog X.w) A.in1 (Builtin.List.listExtendWith (.ref S) (.ref e) res)
      (fun fin s' => match fin with | .done f => R (.ok f) s' | .again c' => c'.quiet = true ∧ codeAny (model X.prog X.w) A c' R s') (fun e s' => R (.error e) s') s := by
  have key : ∀ (s1 : Shared) (c₁ : Nat), Inv X pins σ H s1 → IsEnum s1.heap e it 0 .none → s1.heap.IsListIter it a 0 → s1.heap.get? S = some { cls := .type "list", dict := none, data := .seq #[] c₁, slots := #[] } → codeAny (model X.prog X.w) A (.builtin "list.extend.loop" ⟨[.ref S, .ref e, res], []⟩) R s1 := fun s1 c₁ I1 he1 hit1 hS1 =>
    en_loop (A := A) (H0 := H) hh hq hlen hne eS iS res (fun s' H' acc c ts J ex fS' h1 h2 h3 h4 => hR s' ⟨H', acc, c, ts, J, ex, fS', h1, h2, h3, h4⟩) xs.length 0 s1 H #[] c₁ [] (Nat.sub_zero _) (Nat.zero_le _) I1 (fun _ _ q => q) (.inl ⟨.none, he1⟩) hit1 fe fi fS hS1 rfl rfl fun j t hj => by simp at hj
  unfold Builtin.List.listExtendWith
  refine wpAny_bind (wpAny_typeOf (T := "enumerate") ⟨_, he, rfl⟩ ?_)
  have h1 : Builtin.List.listSameRef (.ref S) (.ref e) = false := by simp [Builtin.List.listSameRef, eS.symm]
  have h2 : (Value.type "enumerate" == Value.type "list") = false := by decide
  have h3 : (Value.type "enumerate" == Value.type "tuple") = false := by decide
  simp only [h1, h2, h3, Bool.or_false, Bool.false_eq_true, if_false]
  refine wpAny_bind (wpAny_pyIter_enum he ?_)
  refine wpAny_bind (wpAny_holding (en_hint ⟨_, he, rfl⟩ ?_))
  refine wpAny_ite_split (fun _ => ?_) (fun _ => wpAny_pure ⟨plainId_quiet PySem.F.plain_extend_loop _, key s c₀ I he hit hS⟩)
  refine wpAny_bind (wpAny_rule ?_)
  refine wpAny_bind ?_
  show wpAny _ _ (updateSeq S (·.push .none) >>= fun _ => updateSeq S (·.pop)) _ _ _
  refine wpAny_bind (wpAny_updateSeq hS rfl ?_)
  have hS₂ := Heap.get?_update_self (Obj.mapSeq (·.push Value.none)) hS rfl
  refine wpAny_updateSeq (hz := by seq_fits) hS₂ rfl ?_
  have hS₃ := Heap.get?_update_self (Obj.mapSeq (·.pop)) hS₂ rfl
  have I2 := s_upd (o := { cls := .none }) (vs := #[]) (ws := #[]) (c := 0) (c' := 0) I fS (·.push Value.none)
  have I3 := s_upd (o := { cls := .none }) (vs := #[]) (ws := #[]) (c := 0) (c' := 0) I2 fS (·.pop)
  have oth : ∀ b o, b ≠ S → s.heap.get? b = some o → ((s.heap.update S (Obj.mapSeq (·.push Value.none))).update S (Obj.mapSeq (·.pop))).get? b = some o := fun b o hb q => (Heap.get?_update_other _ _ (Ne.symm hb)).trans ((Heap.get?_update_other _ _ (Ne.symm hb)).trans q)
  exact wpAny_pure ⟨plainId_quiet PySem.F.plain_extend_loop _, key _ _ I3 (oth e _ eS he) (hit.at fun o q => oth it o iS q) hS₃⟩
theorem en_init (hh : A.handled = none) (I : Inv X pins σ H s) (hq : SqL X.K H a xs) (hlen : xs.length ≤ 100000) (hne : e ≠ it) (eS : e ≠ S) (iS : it ≠ S) (fe : FpOk X pins H e) (fi : FpOk X pins H it) (fS : FpOk X pins H S)
    (he : IsEnum s.heap e it 0 .none) (hit : s.heap.IsListIter it a 0) (hS : s.heap.get? S = some { cls := .type "list", dict := none, data := .seq #[], slots := #[] }) (hR : ∀ s', EnEnd X pins σ H S xs s' → R (.ok (.ret .none)) s') :
    wpAny (model X.prog X.w) A.in1 (Builtin.«list.__init__» ⟨[.ref S, .ref e], []⟩)
      (fun fin s' => match fin with | .done f => R (.ok f) s' | .again c' => c'.quiet = true ∧ codeAny (model X.prog X.w) A c' R s') (fun e s' => R (.error e) s') s := by
  show wpAny _ _ (do let old ← Builtin.List.listItems (.ref S); Builtin.List.listUpdate (.ref S) (fun _ => #[]); letGo old.toList.reverse; Builtin.List.listExtendWith (.ref S) (.ref e) .none) _ _ s
  refine wpAny_bind ?_
  unfold Builtin.List.listItems
  refine wpAny_bind (wpAny_seqItems hS rfl (wpAny_pure ?_))
  show wpAny _ _ (updateSeq S (fun _ => #[]) >>= fun _ => letGo (#[] : Array Value).toList.reverse >>= fun _ => Builtin.List.listExtendWith (.ref S) (.ref e) .none) _ _ s
  refine wpAny_bind (wpAny_updateSeq hS rfl ?_)
  have hS₂ := Heap.get?_update_self (Obj.mapSeq (fun _ => (#[] : Array Value))) hS rfl
  have oth : ∀ b o, b ≠ S → s.heap.get? b = some o → (s.heap.update S (Obj.mapSeq (fun _ => (#[] : Array Value)))).get? b = some o :=
    fun b o hb e => (Heap.get?_update_other _ _ (Ne.symm hb)).trans e
  have I2 := s_upd (o := { cls := .none }) (vs := #[]) (ws := #[]) (c := 0) (c' := 0) I fS (fun _ => (#[] : Array Value))
  refine wpAny_bind (wpAny_letGo ?_)
  exact en_extend hh I2 hq hlen hne eS iS fe fi fS (oth e _ eS he) (hit.at fun o q => oth it o iS q) hS₂ .none hR
/-- list(an enumerate that stands at its beginning) -/
theorem en_call {E : Value → Shared → Prop} {Q : Value → Shared → Prop} (hh : A.handled = none) (I : Inv X pins σ H s) (hq : SqL X.K H a xs) (hlen : xs.length ≤ 100000) (hne : e ≠ it) (fe : FpOk X pins H e) (fi : FpOk X pins H it)
    (he : IsEnum s.heap e it 0 .none) (hit : s.heap.IsListIter it a 0) (hQ : ∀ s', EnEnd X pins σ H s.heap.objs.size xs s' → Q (.ref s.heap.objs.size) s') :
    wpAny (model X.prog X.w) A (call (.type "list") [.ref e]) Q E s := by
  refine callType_codes (Q₁ := fun obj s₁ => obj = .ref s.heap.objs.size ∧ s₁ = { s with heap := s.heap.push { cls := .type "list", data := .seq #[] } }) PySem.F.called_list (PySem.F.typeCall_list_1 _) PySem.F.entry_list_init
    (code_list_new _ ⟨rfl, rfl⟩) fun obj s₁ h₁ => ?_
  obtain ⟨rfl, rfl⟩ := h₁
  have hS : (s.heap.push { cls := .type "list", data := .seq #[] }).get? s.heap.objs.size = some { cls := .type "list", data := .seq #[] } := Heap.get?_push_size _ rfl
  have hel : e < s.heap.objs.size := Heap.lt_size he
  have hil : it < s.heap.objs.size := by obtain ⟨_, q, _⟩ := hit; exact Heap.lt_size q
  have hn : H s.heap.objs.size = none := I.hok.fresh (Nat.le_refl _)
  have fS : FpOk X pins H s.heap.objs.size := I.fpOk (Nat.le_refl _) hn
  have I1 : Inv X pins σ H { s with heap := s.heap.push { cls := .type "list", data := .seq #[] }, toks := s.toks } := I.kept (t' := s.toks) fun b o q => Heap.get?_push_of_some _ q
  refine ⟨⟨_, hS, rfl⟩, PySem.F.args_list_init_2 _ _, en_init (A := A.in1) hh I1 hq hlen hne (Nat.ne_of_lt hel) (Nat.ne_of_lt hil) fe fi fS (Heap.get?_push_of_some _ he) (hit.at fun o q => Heap.get?_push_of_some _ q) hS fun s' h => ?_⟩
  exact ⟨rfl, hQ s' h⟩
end
section
variable {X : Cx} {pins : List (Addr × Obj)} {σ : St} {H : Hp} {s : Shared} {S : Addr} {xs : List V}
theorem vals_refs' : ∀ ts : List Addr, Vals (ts.map V.ref) (ts.map Value.ref)
  | [] => .nil
  | _ :: ts => .cons rfl (vals_refs' ts)
theorem en_tracked (h : EnEnd X pins σ H S xs s) (hlen : xs.length ≤ 100000) : ∃ H' ts, Inv X pins σ H' s ∧ (∀ b o, H b = some o → H' b = some o) ∧ H' S = some (.lst (ts.map V.ref)) ∧ ts.length = xs.length ∧ EnP H' xs ts := by
  obtain ⟨H1, acc, c, ts, I, ex, fS, hS, hacc, hl, ep⟩ := h
  have hsl := sizeLine_eq
  have kp : ∀ b u, H1 b = some u → upd H1 S (.lst (ts.map V.ref)) b = some u := fun b u q => by
    rw [upd_ne (fun z => by rw [z, fS.1] at q; cases q)]; exact q
  refine ⟨upd H1 S (.lst (ts.map V.ref)), ts, ?_, fun b o q => kp b o (ex b o q), upd_same, hl, ep.ex kp⟩
  obtain ⟨f0, f1, f2, f3, f4, f5⟩ := fS
  refine I.step (g' := s.gens) (d' := s.drawn) (t' := s.toks) (h' := s.heap) (ch := [S]) (fun b hb => ?_) (fun b o _ _ _ q _ => q) (fun b o _ _ _ q _ => ⟨o.slots, q⟩) (fun b o hb q n => ?_) (fun b o _ q => ⟨o, q⟩) (fun b us q => kp b _ q) (fun b o u q => kp b _ q) (fun b ps q => ⟨#[], by rw [kp b _ q]; simp⟩) (fun m hm => hm) (fun b u q => ?_) I.bare
  · have : b = S := by simpa using hb
    subst this
    exact ⟨f3, f1, f4, f5⟩
  · rw [upd_ne (by simpa using hb)]; exact n
  · by_cases hb : b = S
    · subst hb
      rw [upd_same] at q
      cases q
      refine ⟨by rw [List.length_map]; omega, acc.toList, c, by rw [hacc]; exact vals_refs' ts, ?_⟩
      rw [Array.toArray_toList]
      exact hS
    · rw [upd_ne hb] at q
      exact (I.hok b u q).stay (fun d v _ y => y) (fun d y => kp d _ y) fun d ys y => kp d _ y
end
/-- list(enumerate(l)) -/
def cLEn (K : PySem.W.Frag) (te : TE) : TE := fun σ H Q => te σ H fun x H1 => ∃ a xs, x = .ref a ∧ SqL K H1 a xs ∧ xs.length ≤ 100000 ∧ ∀ S H' ts, H1 S = none → (∀ b o, H1 b = some o → H' b = some o) → H' S = some (.lst (ts.map V.ref)) → ts.length = xs.length → EnP H' xs ts → Q (.ref S) H'
theorem pe_listEnum {X : Cx} {e : Expr} {te : TE} {p p2 pos pos2 : Pos} (hh : X.A.handled = none) (he : PE X e te) (hst : notStar e = true) (hg : Gl X "list") (hm : X.mg "list" = none) (hg2 : Gl X "enumerate") (hm2 : X.mg "enumerate" = none) :
    PE X (.Call (.Name "list" p) [.Call (.Name "enumerate" p2) [e] [] pos2] [] pos) (cLEn X.K te) := by
  refine ⟨fun pins s σ H Q I hq => ?_⟩
  have hs : starEach [.Call (.Name "enumerate" p2) [e] [] pos2] X.env = (false, eval (.Call (.Name "enumerate" p2) [e] [] pos2) X.env) :: starEach [] X.env := rfl
  have hs2 : starEach [e] X.env = [(false, eval e X.env)] := by cases e <;> first | rfl | exact absurd hst Bool.false_ne_true
  refine wpAny_Call_Name_kw (ld_blt I hg hm PyProof.Rows.Boot.«list» ?_)
  refine PyProof.Rows.callWith_type1 ?_ hs rfl
  rw [hs]
  show wpAny _ _ (spliced ((false, eval (.Call (.Name "enumerate" p2) [e] [] pos2) X.env) :: backTo pos (starEach [] X.env))) _ _ s
  refine Calls.spliced_cons ?_
  refine wpAny_Call_Name_kw (ld_blt I hg2 hm2 boot_enumerate ?_)
  refine PyProof.Rows.callWith_type1 ?_ hs2 rfl
  rw [hs2]
  show wpAny _ _ (spliced ((false, eval e X.env) :: backTo pos2 (starEach [] X.env))) _ _ s
  refine Calls.spliced_cons (thn (he.run pins s σ H _ I hq) fun u s1 ⟨x, H1, I1, rx, a, xs, ex, hq1, hl, q⟩ => ?_)
  subst ex
  obtain rfl : u = Value.ref a := rx
  refine Calls.spliced_nil ?_
  obtain ⟨its, rv, p', hz⟩ := I1.list hq1
  refine call_enumerate_list p'.isList fun h' hen hit hsz hk => ?_
  have I2 : Inv X pins σ H1 { s1 with heap := h' } := I1.kept (t' := s1.toks) hk
  refine Calls.spliced_nil ?_
  have fe : FpOk X pins H1 (s1.heap.objs.size + 1) := I1.fpOk (Nat.le_succ _) (I1.hok.fresh (Nat.le_succ _))
  have fi : FpOk X pins H1 s1.heap.objs.size := I1.fpOk (Nat.le_refl _) (I1.hok.fresh (Nat.le_refl _))
  refine en_call hh I2 hq1 hl (Nat.succ_ne_self _) fe fi hen hit fun s' hend => ?_
  have hn : H1 h'.objs.size = none := I2.hok.fresh (Nat.le_refl _)
  obtain ⟨H', ts, J, k1, k2, k3, k4⟩ := en_tracked hend hl
  exact ⟨.ref _, H', J, rfl, q _ H' ts hn k1 k2 k3 k4⟩
end WR

set_option Elab.async false
set_option linter.all false
set_option maxRecDepth 100000
set_option maxHeartbeats 4000000
/-! enumerate of a tuple -/
namespace WR
open PySem PySem.Spec PyProof.Rows L2
theorem meets_enumerate_newB1 {v : Value} {o : Obj} {H : Heap → Prop} (B : Begins v o H) :
    Meets (Builtin.«enumerate.__new__» ⟨[.type "enumerate", v], []⟩) (fun _ R s => H s.heap ∧
      R (.ok (.ret (.ref (s.heap.push o).objs.size))) { s with heap := (s.heap.push o).push { cls := .type "enumerate", data := .fields #[.none, .bool false, .ref s.heap.objs.size, rawInt 0, .none, .none] } }) :=
  .of_wp fun prog w A R s h => by
    obtain ⟨hp, g, d, tk, os⟩ := s; obtain ⟨h1, h⟩ := h
    have hsub := sub_enumerate
    have q1 : ∀ {A' : Around} {E : Value → Shared → Prop} {Q : Value → Shared → Prop}, Q (.ref hp.objs.size) ⟨hp.push o, g, d, tk, os⟩ → wpAny (model prog w) A' (pyIter v) Q E ⟨hp, g, d, tk, os⟩ :=
      fun q => B.iter prog w _ _ ⟨hp, g, d, tk, os⟩ _ h1 q
    wp_walk using q1
    refine wpAny_stack_any fun st => wpAny_pure ?_
    split
    · rename_i c _ _ _ _ _
      cases (c == Value.type "enumerate")
      · wp_walk using q1
        exact ⟨_, rfl, h⟩
      · wp_walk using q1
        exact ⟨_, rfl, h⟩
    · wp_walk using q1
      exact ⟨_, rfl, h⟩
theorem call_enumerate_tuple {prog : Program} {w : World} {A : Around} {E : Value → Shared → Prop} {s : Shared} {l : Addr} {items : Array Value} {Q : Value → Shared → Prop} (hL : s.heap.IsTuple l items)
    (h : ∀ h', IsEnum h' (s.heap.objs.size + 1) s.heap.objs.size 0 .none → h'.IsTupleIter s.heap.objs.size l 0 → h'.objs.size = s.heap.objs.size + 2 →
      (∀ b o, s.heap.get? b = some o → h'.get? b = some o) → Q (.ref (s.heap.objs.size + 1)) { s with heap := h' }) :
    wpAny (model prog w) A (call (.type "enumerate") [.ref l]) Q E s := by
  refine callType_new F.called_enumerate (by decide) (F.typeCall_enumerate_1 _) (F.newCall_enumerate_1 _) (fun obj => F.args_object_init_2 obj _) F.entry_enumerate_new
    (meets_enumerate_newB1 (begins_tuple l items)) ⟨hL, ?_⟩
  have hz : (s.heap.push { cls := .type "tuple_iterator", data := .fields #[.ref l, .int 0 0] }).objs.size = s.heap.objs.size + 1 := Heap.size_push ..
  show _ ∧ _
  rw [hz]
  have he : IsEnum ((s.heap.push { cls := .type "tuple_iterator", data := .fields #[.ref l, .int 0 0] }).push
      { cls := .type "enumerate", data := .fields #[.none, .bool false, .ref s.heap.objs.size, rawInt 0, .none, .none] }) (s.heap.objs.size + 1) s.heap.objs.size 0 .none := by
    have := Heap.get?_push_size (s.heap.push { cls := .type "tuple_iterator", data := .fields #[.ref l, .int 0 0] })
      (o := { cls := .type "enumerate", data := .fields #[.none, .bool false, .ref s.heap.objs.size, rawInt 0, .none, .none] }) rfl
    rw [hz] at this; exact this
  refine ⟨⟨_, he, rfl⟩, h _ he ⟨_, Heap.get?_push_of_some _ (Heap.get?_push_size _ rfl), rfl, rfl⟩ (by rw [Heap.size_push, hz]) fun b o x => Heap.get?_push_of_some _ (Heap.get?_push_of_some _ x)⟩
/-- the tuple at a, each item in a new pair -/
def IteT (K : PySem.W.Frag) (a : Addr) : It :=
  ⟨fun i H => ∃ (xs : List V) (x : V), SqT K H a xs ∧ xs[i]? = some x, fun i H v H' => ∃ T x, v = .ref T ∧ H T = none ∧ H' = upd H T (.tup [.int (i : Nat), x]) ∧ ∀ xs, SqT K H a xs → xs[i]? = some x, fun i H => ∃ xs : List V, SqT K H a xs ∧ xs.length = i⟩
theorem turn_enumT {P : Program} {w : World} {K : PySem.W.Frag} {elts : List Expr} {kk : Nat} {tpos : Pos} (a e it : Addr) :
    Turn P w K (.Tuple elts kk tpos) (IteT K a) [e, it] e (fun i h => (∃ old, IsEnum h e it ((i : Nat) : Int) old) ∧ h.IsTupleIter it a i ∧ e ≠ it ∧ e ≠ a ∧ a ≠ it) where
  mem := by simp
  obj := fun i h st b hb => by
    obtain ⟨⟨old, he⟩, ⟨o, ho, hc, hd⟩, _⟩ := st
    have e' : b = e ∨ b = it := by simpa using hb
    rcases e' with z | z
    · rw [z]; exact ⟨_, he, fun v q => nomatch q⟩
    · rw [z]; exact ⟨o, ho, fun v q => by rw [hd] at q; cases q⟩
  keep := fun i h h' st k => let ⟨⟨old, he⟩, hi, hne⟩ := st; ⟨⟨old, k e (by simp) _ he⟩, hi.at fun o q => k it (by simp) o q, hne⟩
  item := by
    intro X hP hw hK hc i pins s σ H E I hf st hg
    subst hP hw hK
    obtain ⟨⟨old, he⟩, hit, hne, hea, hai⟩ := st
    obtain ⟨xs, x, hq, hx⟩ := hg
    obtain ⟨its, rv, p, hz⟩ := I.tuple hq
    obtain ⟨u, hu, ru⟩ := rv.get hx
    have hel : e < s.heap.objs.size := Heap.lt_size he
    have hil : it < s.heap.objs.size := by obtain ⟨_, q, _⟩ := hit; exact Heap.lt_size q
    have hlt : i < its.toArray.size := by
      have := (List.getElem?_eq_some_iff.mp hu).1
      simpa using this
    refine wpAny_pyNext_enum_itemD (Draws.tuple (A := X.A.in1) (I.ok.hd hc) it a hai its.toArray) he ⟨hit, p⟩ hlt hne (by simp [hea, hne]) fun x' h' tk hPx ho hst hT hsz hk => ?_
    obtain rfl : u = x' := by
      have h2 : its[i]? = some x' := by simpa using hPx
      rw [hu] at h2; exact Option.some.inj h2
    refine ⟨_, rfl, wpAny_letOwnedTupleGo_enum (s := { s with heap := h', toks := tk + 1 }) ho fun h'' he' sb => ?_⟩
    have hT2 : h''.get? s.heap.objs.size = some { cls := .type "tuple", data := .seq #[.int i tk, u] } := (sb.2 _ (Nat.ne_of_gt hel)).trans hT
    have new : ObjOk X.prog X.w (upd H s.heap.objs.size (.tup [.int (i : Nat), x])) h'' s.heap.objs.size (.tup [.int (i : Nat), x]) :=
      ⟨by show 2 ≤ sizeLine; decide, [.int i tk, u], .cons ⟨_, rfl⟩ (.cons ru .nil), ⟨_, hT2, rfl, _, rfl⟩⟩
    have I1 : Inv X pins σ (upd H s.heap.objs.size (.tup [.int (i : Nat), x])) { s with heap := h'', toks := tk + 1 } :=
      I.turnedNew (ch := [e, it]) (fun b ob hb q => (sb.2 b (fun z => hb (by simp [z]))).trans (hk b ob (fun z => hb (by simp [z])) (fun z => hb (by simp [z])) q)) hf (Nat.le_refl _) new
    refine ⟨.ref s.heap.objs.size, _, I1, rfl, ⟨_, x, rfl, I.hok.fresh (Nat.le_refl _), rfl, fun ys hy => by rw [I.tuple_inj hy hq]; exact hx⟩, ⟨⟨u, ?_⟩, hst.1.at fun o q => (sb.2 it (Ne.symm hne)).trans q, hne, hea, hai⟩, fun b hb => ?_⟩
    · have e1 : ((i + 1 : Nat) : Int) = (i : Int) + 1 := by omega
      rw [e1]; exact he'
    · have hb' : b < s.heap.objs.size := by
        have e' : b = e ∨ b = it := by simpa using hb
        rcases e' with z | z
        · rw [z]; exact hel
        · rw [z]; exact hil
      rw [upd_ne (Nat.ne_of_lt hb')]
      exact (hf b hb).1
  done := by
    intro X hP hw hK hc i pins s σ H E I hf st hg
    subst hP hw hK
    obtain ⟨⟨old, he⟩, hit, hne, hea, hai⟩ := st
    obtain ⟨xs, hq, hx⟩ := hg
    obtain ⟨its, rv, p, hz⟩ := I.tuple hq
    obtain ⟨f0, f1, f2, f3, f4, f5⟩ := hf it (by simp)
    have hl := rv.length
    have hz2 : its.toArray.size = i := by simp; omega
    exact wpAny_pyNext_enum_endD (Draws.tuple (A := X.A.in1) (I.ok.hd hc) it a hai its.toArray) he ⟨by rw [hz2]; exact hit, p⟩ fun h' eb => ⟨rfl, I.turned (t' := s.toks) (fun b o hb q => eb b o hb q) f0 f1 f3 f4 f5⟩
  self := fun A i s Q E st h => let ⟨⟨_, he⟩, _⟩ := st; wpAny_pyIter_enum he h
def iEnumB (K : PySem.W.Frag) (ta : TA) : TI := fun σ H R => ta σ H fun vs H1 => ∃ a xs, vs = [.ref a] ∧ ((SqL K H1 a xs ∧ R (Ite K a) H1) ∨ (SqT K H1 a xs ∧ R (IteT K a) H1))
theorem pi_enumB {X : Cx} {e : Expr} {ta : TA} {p pos tpos : Pos} {elts : List Expr} {kk : Nat} (hg : Gl X "enumerate") (hm : X.mg "enumerate" = none) (ha : PA X [e] ta) (hs : starEach [e] X.env = [(false, eval e X.env)] := by rfl) :
    PI X (.Tuple elts kk tpos) (.Call (.Name "enumerate" p) [e] [] pos) (iEnumB X.K ta) := by
  refine ⟨fun pins s σ H R I h => ?_⟩
  refine Call_ (ld_blt I hg hm boot_enumerate (PyProof.Rows.callWith_type1 (thn (ha.run pos pins s σ H _ I h) fun us s1 ⟨vs, H1, I1, r1, q1⟩ => ?_) hs rfl))
  obtain ⟨a, xs, ex, q⟩ := q1
  subst ex
  cases r1 with
  | cons r rr =>
    cases rr
    cases r
    have fps : ∀ b ∈ [s1.heap.objs.size + 1, s1.heap.objs.size], FpOk X pins H1 b := fun b hb => by
      have e' : b = s1.heap.objs.size + 1 ∨ b = s1.heap.objs.size := by simpa using hb
      have hle : s1.heap.objs.size ≤ b := by
        rcases e' with z | z
        · rw [z]; exact Nat.le_add_right _ _
        · rw [z]; exact Nat.le_refl _
      exact I1.fpOk hle (I1.hok.fresh hle)
    rcases q with ⟨hq, q⟩ | ⟨hq, q⟩
    · obtain ⟨its, rv, p', hz⟩ := I1.list hq
      refine call_enumerate_list p'.isList fun h' he hit hsz hk => wpAny_pyIter_enum he ?_
      have I2 : Inv X pins σ H1 { s1 with heap := h' } := I1.kept (t' := s1.toks) hk
      exact ⟨s1.heap.objs.size + 1, [s1.heap.objs.size + 1, s1.heap.objs.size], _, _, H1, rfl, I2, turn_enum a (s1.heap.objs.size + 1) s1.heap.objs.size, ⟨⟨.none, he⟩, hit, Nat.succ_ne_self _⟩, fps, q⟩
    · obtain ⟨its, rv, p', hz⟩ := I1.tuple hq
      have hal : a < s1.heap.objs.size := by obtain ⟨_, q, _⟩ := p'; exact Heap.lt_size q
      refine call_enumerate_tuple p' fun h' he hit hsz hk => wpAny_pyIter_enum he ?_
      have I2 : Inv X pins σ H1 { s1 with heap := h' } := I1.kept (t' := s1.toks) hk
      exact ⟨s1.heap.objs.size + 1, [s1.heap.objs.size + 1, s1.heap.objs.size], _, _, H1, rfl, I2, turn_enumT a (s1.heap.objs.size + 1) s1.heap.objs.size, ⟨⟨.none, he⟩, hit, Nat.succ_ne_self _, Nat.ne_of_gt (Nat.lt_succ_of_lt hal), Nat.ne_of_lt hal⟩, fps, q⟩
end WR

set_option Elab.async false
set_option linter.all false
set_option maxRecDepth 100000
set_option maxHeartbeats 4000000
namespace WR
open PySem PySem.Spec PyProof.Rows L2

/-! ## 14. the translation of expressions -/
abbrev OE := Option (WX → TE)
abbrev FE := List Str → Scope → Expr → OE
abbrev FT := List Str → Scope → Expr → Option (WX → TT)

def opR (K : PySem.W.Frag) : Operator → Option R2
  | .Add => some (oAdd K)
  | .Sub => some oSub
  | .Mult => some oMul
  | .FloorDiv => some oFdiv
  | .Mod => some oMod
  | .Pow => some oPow
  | .LShift => some oShl
  | .BitOr => some oBor
  | _ => none
def cmpR (g : G) : CmpOp → Option R2
  | .Lt => some (oLtK g.K)
  | .LtE => some oLe
  | .Gt => some (oGtK g.K)
  | .GtE => some (oGeK g.K)
  | .Eq => some (oEqG g)
  | .NotEq => some (oNeG g)
  | .In => some (oIn g.K false)
  | .NotIn => some (oIn g.K true)
  | .Is => some oIs
  | .IsNot => some oIsNot
def notSet : Expr → Bool
  | .Set _ _ _ => false
  | _ => true
theorem notSet_b {op : CmpOp} {e : Expr} (h : notSet e = true) : behindInMarks op e = false := by
  cases e <;> first | rfl | exact absurd h Bool.false_ne_true
theorem notSet_l {o o' : CmpOp} {b e : Expr} (h : notSet e = true) : lastMarks [o, o'] [b, e] = false := notSet_b (op := o') h

def tArgs (f : Expr → OE) : List Expr → Option (WX → TA)
  | [] => some fun _ => tNil
  | e :: es => if notStar e = true then match f e, tArgs f es with
      | some te, some t => some fun W => tCons (te W) (t W)
      | _, _ => none
    else none
def tKws (f : Expr → OE) : List Keyword → Option (WX → TA)
  | [] => some fun _ => tNil
  | k :: ks => match f k.value, tKws f ks with
      | some te, some t => some fun W => tCons (te W) (t W)
      | _, _ => none
def cAnd (K : PySem.W.Frag) (ta tb : TE) : TE := fun σ H Q => ta σ H fun x H1 => match oTru K x H1 with
  | some true => tb σ H1 Q
  | some false => Q x H1
  | none => False
def cOr (K : PySem.W.Frag) (ta tb : TE) : TE := fun σ H Q => ta σ H fun x H1 => match oTru K x H1 with
  | some true => Q x H1
  | some false => tb σ H1 Q
  | none => False
def cNot (K : PySem.W.Frag) (ta : TE) : TE := fun σ H Q => ta σ H fun x H1 => match oTru K x H1 with
  | some b => Q (.bl (!b)) H1
  | none => False
def cTest (t : TE) : TT := fun σ H Q => t σ H fun x H1 => match x with
  | .bl k => Q k H1
  | _ => False
def tBool (K : PySem.W.Frag) (f : Expr → OE) (isAnd : Bool) : List Expr → OE
  | [] => none
  | [e] => f e
  | e :: es => match f e, tBool K f isAnd es with
    | some ta, some tb => some fun W => if isAnd then cAnd K (ta W) (tb W) else cOr K (ta W) (tb W)
    | _, _ => none
def tBoolT (f : Expr → Option (WX → TT)) (isAnd : Bool) : List Expr → Option (WX → TT)
  | [] => none
  | [e] => f e
  | e :: es => match f e, tBoolT f isAnd es with
    | some ta, some tb => some fun W => if isAnd then tAnd (ta W) (tb W) else tOr (ta W) (tb W)
    | _, _ => none
/-- comparisons a op b op' c -/
def cChain (r r' : R2) (ta tb tc : TE) : TE := fun σ H Q => ta σ H fun x H1 => tb σ H1 fun y H2 => r x y H2 fun z H3 => match z with
  | .bl true => tc σ H3 fun w' H4 => r' y w' H4 Q
  | .bl false => Q (.bl false) H3
  | _ => False
def cUn (ta : TE) : TE := fun σ H Q => ta σ H fun x H1 => match x with
  | .int i => Q (.int (-i)) H1
  | _ => False
def cPart (t : TE) : TO := fun σ H Q => t σ H fun x H1 => match x with
  | .int i => Q (some i) H1
  | _ => False
def tPartO (f : Expr → OE) : Option Expr → Option (WX → TO)
  | none => some fun _ => tNoPart
  | some e => match f e with
    | some t => some fun W => cPart (t W)
    | none => none
/-- built-in functions by name -/
def bltTab (g : G) : List (Str × Value × RC) := [("repr", .builtin "repr", bRepr g.K), ("len", .builtin "len", bLenG g), ("isinstance", .builtin "isinstance", bIsi g.K), ("all", .builtin "all", bAll g.K), ("any", .builtin "any", bAny g.K), ("sum", .builtin "sum", bSum g.K),
  ("abs", .builtin "abs", bAbs), ("max", .builtin "max", bMax), ("min", .builtin "min", bMin), ("ord", .builtin "ord", bOrd), ("int", .type "int", bInt), ("str", .type "str", bStrG g), ("list", .type "list", bList g.K), ("tuple", .type "tuple", bTuple g.K), ("dict", .type "dict", bDict g.K),
  ("bool", .type "bool", bBoolG g), ("sorted", .builtin "sorted", bSortedX g.K), ("range", .type "range", bRng)]
def bltR (g : G) (x : Str) : Option (Value × RC) := (bltTab g).lookup x
/-- isinstance(.., D), D an own class by its name -/
def isOwn (g : G) (sc : Scope) (x : Str) : List Expr → Option (Str × Addr)
  | [_, .Name c _] => if x = "isinstance" ∧ sc.names.lookup c = some .globalImplicit then g.nes.find? (fun p => decide (p.1 = c)) else none
  | _ => none
def cMk (C : Addr) (n m : Nat) (arr : List V → List V → List V) (sp : Sp) (t tk : TA) (W : WX) : TE := fun σ H Q => t σ H fun vs H1 => tk σ H1 fun zs H2 => vs.length = n ∧ zs.length = m ∧ ∀ x dx, H2 x = none → H2 dx = none → dx ≠ x →
  sp (.ref x :: arr vs zs) (upd (upd H2 dx (.own x)) x (.ins C dx [])) (fun v H3 => v = .non ∧ Q (.ref x) H3) (fun cls d H' => W cls d σ H')
def tCallName (g : G) (f : Expr → OE) (sc : Scope) (x : Str) (es : List Expr) (kws : List Keyword) : OE :=
  if plainName x = true ∧ sc.names.lookup x = some .globalImplicit then
    match kwNames kws, tArgs f es, tKws f kws with
    | some ks, some t, some tk => match g.fns.find? (fun i => decide (i.name = x) && decide (i.n = es.length) && decide (i.ks = ks)) with
      | some i => some fun W => cCall i.sp es.length ks.length i.arr (t W) (tk W) W
      | none => match g.mks.find? (fun i => decide (i.name = x) && decide (i.n = es.length) && decide (i.ks = ks)) with
        | some i => some fun W => cMk i.cls es.length ks.length i.arr i.sp (t W) (tk W) W
        | none => if x ∈ g.blt ∧ kws = [] ∧ es ≠ [] then match (match isOwn g sc x es with | some D => some (Value.builtin "isinstance", bIsO g D.2) | none => bltR g x) with
            | some (v, r) => if bootBuiltins x = some v then some fun W => tCB r (t W) else none
            | none => none
          else none
    | _, _, _ => none
  else none
/-- max(x, key=f), min(x, key=f) -/
def tKeyed (g : G) (f : Expr → OE) (sc : Scope) (x : Str) (es : List Expr) (kws : List Keyword) : OE := match es, kws with
  | [e], [⟨some kn, .Name y _, _⟩] => if kn = "key" ∧ (x = "max" ∨ x = "min") ∧ sc.names.lookup x = some .globalImplicit ∧ x ∈ g.blt ∧ sc.names.lookup y = some .globalImplicit ∧ plainName y = true ∧ notStar e = true then
    (match f e, g.fns.find? (fun i => decide (i.name = y) && decide (i.n = 1) && decide (i.ks = [])) with
    | some t, some i => some fun W => cKeyed g.K (decide (x = "max")) i.sp i.arr (t W)
    | _, _ => none) else none
  | _, _ => none
/-- list(d.values()), list(d.items()) -/
def tListV (g : G) (f : Expr → OE) (sc : Scope) (x : Str) (es : List Expr) (kws : List Keyword) : OE := match es with
  | [.Call (.Attribute o m apos) [] [] cpos] => if x = "list" ∧ kws = [] ∧ sc.names.lookup x = some .globalImplicit ∧ x ∈ g.blt ∧ baseOk o = true ∧ (apos.endLine == cpos.line) = true then (match f o with
    | some t => if m = "values" then some fun W => cLV (t W) else if m = "items" then some fun W => cLI (t W) else none
    | none => none) else none
  | [.Call (.Name y _) [e1] [] _] => if x = "list" ∧ y = "enumerate" ∧ kws = [] ∧ sc.names.lookup x = some .globalImplicit ∧ x ∈ g.blt ∧ sc.names.lookup y = some .globalImplicit ∧ y ∈ g.blt ∧ notStar e1 = true then (match f e1 with
    | some t => some fun W => cLEn g.K (t W)
    | none => none) else none
  | _ => none
/-- attributes of own classes -/
def cAttr (cands : List Addr) (f : Str) (ta : TE) : TE := fun σ H Q => ta σ H fun x H1 => match insOf H1 x with
  | some (_, C, fs) => C ∈ cands ∧ (match fs.lookup f with
    | some v => Q v H1
    | none => False)
  | none => False
def tPairsL (f : Expr → OE) : List (Option Expr) → List Expr → Option (List (WX → TE × TE))
  | [], [] => some []
  | some k :: ks, v :: vs => match f k, f v, tPairsL f ks vs with
    | some tk, some tv, some r => some ((fun W => (tk W, tv W)) :: r)
    | _, _, _ => none
  | _, _ => none
def tDict (f : Expr → OE) (ks : List (Option Expr)) (vs : List Expr) : OE := match ks, vs with
  | [], [] => some fun _ => tDNewK
  | ks, vs => if ks.length ≤ 15 then (match tPairsL f ks vs with
    | some trs => some fun W => tDisp (trs.map fun t => t W)
    | none => none) else none
end WR

set_option Elab.async false
set_option linter.all false
set_option maxRecDepth 100000
set_option maxHeartbeats 4000000
namespace WR
open PySem PySem.Spec PyProof.Rows L2

/-! ## 15. what a for walks; loops by turns -/
def cIter (K : PySem.W.Frag) (ta : TE) : TI := fun σ H R => ta σ H fun x H1 => match x with
  | .ref a => (match look K H1 a with
    | some (.lst _) => R (Itl K a) H1
    | some (.tup _) => R (Itt K a) H1
    | _ => (match H1 a with
      | some (.frz o (.dK kvs)) => R (Itk a o kvs) H1
      | some (.frz o (.dT kvs)) => R (Itkt a o kvs) H1
      | _ => False))
  | .str z => R (Its z) H1
  | _ => False
def cRng1 (ta : TA) : TI := fun σ H R => ta σ H fun vs H1 => match vs with
  | [.int j] => (-(2 ^ 62) ≤ j ∧ j < 2 ^ 62) ∧ R (Itr 0 j.toNat) H1
  | _ => False
def cRng2 (ta : TA) : TI := fun σ H R => ta σ H fun vs H1 => match vs with
  | [.int i, .int j] => (-(2 ^ 62) ≤ i ∧ i < 2 ^ 62 ∧ -(2 ^ 62) ≤ j ∧ j < 2 ^ 62) ∧ R (Itr i (j - i).toNat) H1
  | _ => False
def cRng3 (ta : TA) : TI := fun σ H R => ta σ H fun vs H1 => match vs with
  | [.int i, .int j, .int c] => ∃ n, RgC i j c n ∧ R (Itc i c n) H1
  | _ => False
def cEnum (K : PySem.W.Frag) (ta : TA) : TI := fun σ H R => ta σ H fun vs H1 => match vs with
  | [.ref a] => (match look K H1 a with
    | some (.lst _) => R (Ite K a) H1
    | some (.tup _) => R (IteT K a) H1
    | _ => False)
  | _ => False
def cZip (K : PySem.W.Frag) (ta : TA) : TI := fun σ H R => ta σ H fun vs H1 => match vs with
  | [.ref a, .ref b] => (match look K H1 a, look K H1 b with
    | some (.lst _), some (.lst _) => R (Itz K a b) H1
    | _, _ => False)
  | _ => False
def cRev (K : PySem.W.Frag) (ta : TA) : TI := fun σ H R => ta σ H fun vs H1 => match vs with
  | [.ref a] => (match look K H1 a with
    | some (.lst xs) => R (Itv K a xs.length) H1
    | _ => False)
  | _ => False
def cDview (k : Nat) (td : TE) : TI := fun σ H R => td σ H fun x H1 => match x with
  | .ref d => (match H1 d with
    | some (.frz o (.dK kvs)) => R (if k = 0 then Itk d o kvs else if k = 1 then Itd d o kvs else Iti d o kvs) H1
    | _ => False)
  | _ => False
section
variable {X : Cx} {tg : Expr}
theorem PI_imp {l : Expr} {t t' : TI} (h : PI X tg l t) (k : ∀ σ H R, t' σ H R → t σ H R) : PI X tg l t' := ⟨fun pins s σ H R I q => h.run pins s σ H R I (k σ H R q)⟩
theorem pi_dyn {l : Expr} {tl : TE} (hl : PE X l tl) : PI X tg l (cIter X.K tl) := by
  refine ⟨fun pins s σ H R I h => ?_⟩
  refine thn (hl.run pins s σ H _ I h) fun v s1 ⟨x, H1, I1, r1, q1⟩ => ?_
  dsimp only at q1
  split at q1
  · rename_i a
    split at q1
    · rename_i xs e
      cases r1
      obtain ⟨its, rv, p, hz⟩ := I1.list (look_lst e)
      exact wpAny_pyIter_list p.isList (pi_one (tk := s1.toks) I1 _ (turn_list a _) ⟨_, Heap.get?_push_size _ rfl, rfl, rfl⟩ q1)
    · rename_i xs e
      cases r1
      obtain ⟨its, rv, p, hz⟩ := I1.tuple (look_tup e)
      exact wpAny_pyIter_tuple (show s1.heap.IsTuple a its.toArray from p) (pi_one (tk := s1.toks) I1 _ (turn_tuple a _) ⟨_, Heap.get?_push_size _ rfl, rfl, rfl⟩ q1)
    · split at q1
      · rename_i o kvs hd
        obtain rfl : v = Value.ref a := r1
        obtain ⟨hs, hgd, hx, es, ep, vs, hdt, hsz, kv, hm⟩ := I1.frzK hd
        refine iter_keys hs hgd hx hdt (pi_one (tk := s1.toks) I1 _ (turn_keys _ hdt) ⟨_, Heap.get?_push_size _ rfl, rfl, ?_⟩ q1)
        rw [hsz] <;> rfl
      · rename_i o kvs hd
        obtain rfl : v = Value.ref a := r1
        obtain ⟨hs, hgd, hx, es, ep, hdt, hsz, ent⟩ := I1.frzT hd
        refine iter_keys hs hgd hx hdt (pi_one (tk := s1.toks) I1 _ (turn_keysT _ hdt) ⟨_, Heap.get?_push_size _ rfl, rfl, ?_⟩ q1)
        rw [hsz] <;> rfl
      · exact q1.elim
  · rename_i x
    obtain ⟨t, rfl⟩ := r1
    cases ha : x.cps.all (· < 128)
    · exact wpAny_pyIter_wide ha (pi_one (tk := s1.toks) I1 _ (turn_str _ x t "str_iterator" (.inr rfl)) ⟨_, Heap.get?_push_size _ rfl, rfl, rfl⟩ q1)
    · exact wpAny_pyIter_ascii ha (pi_one (tk := s1.toks) I1 _ (turn_str _ x t "str_ascii_iterator" (.inl rfl)) ⟨_, Heap.get?_push_size _ rfl, rfl, rfl⟩ q1)
  · exact q1.elim
end

/-- a dict that is walked is locked from then on (where it isn't locked for the statement alone) -/
def frzE (t : TE) : TE := fun σ H Q => t σ H fun x H1 => match x with
  | .ref d => (match H1 d with
    | some (.dK kvs) => ∀ o, Q (.ref d) (upd H1 d (.frz o (.dK kvs)))
    | _ => Q (.ref d) H1)
  | x => Q x H1
theorem pe_frz {X : Cx} {e : Expr} {t : TE} (h : PE X e t) : PE X e (frzE t) := by
  refine ⟨fun pins s σ H Q I q => ?_⟩
  refine thn (h.run pins s σ H _ I q) fun v s1 ⟨x, H1, I1, r1, q1⟩ => ?_
  dsimp only at q1
  split at q1
  · split at q1
    · rename_i e
      obtain ⟨od, I2⟩ := I1.lock e trivial
      exact ⟨_, _, I2, r1, q1 od⟩
    · exact ⟨_, _, I1, r1, q1⟩
  · exact ⟨_, _, I1, r1, q1⟩
/-- a for's turns -/
def lp (J : It) (g : TG) (tb : TS) (D : Ends) : Nat → Nat → St → Hp → Prop
  | 0, i, σ, H => J.stop i H ∧ D.nx σ H
  | n + 1, i, σ, H => (J.stop i H ∧ D.nx σ H) ∨ (J.go i H ∧ ∀ x H', J.yld i H x H' → g x σ H' fun σ2 H2 => tb { D with nx := lp J g tb D n (i + 1), ct := lp J g tb D n (i + 1), bk := D.nx } σ2 H2)
def cFor (wi : TI) (g : TG) (tb : TS) : TS := fun D σ H => wi σ H fun J H1 => ∃ n, lp J g tb D n 0 σ H1
/-- TI's readings are monotone in what is wanted: asked of the very ones that are used -/
def MonoI (wi : TI) : Prop := ∀ σ H R R', (∀ J H', R J H' → R' J H') → wi σ H R → wi σ H R'
theorem lp_W {J : It} {g : TG} {tb : TS} {D : Ends} {σ : St} {H1 : Hp} (h : ∃ n, lp J g tb D n 0 σ H1) :
    ∃ W : Nat → Nat → St → Hp → Prop, (∃ m, W 0 m σ H1) ∧ ∀ i m σ H, W i m σ H →
      (J.stop i H ∧ D.nx σ H) ∨ (J.go i H ∧ ∃ N : St → Hp → Prop, (∀ σ' H', N σ' H' → ∃ m', m' < m ∧ W (i + 1) m' σ' H') ∧ ∀ x H', J.yld i H x H' → g x σ H' fun σ2 H2 => tb { D with nx := N, ct := N, bk := D.nx } σ2 H2) := by
  obtain ⟨n, h⟩ := h
  refine ⟨fun i m σ H => lp J g tb D m i σ H, ⟨n, h⟩, fun i m σ H w => ?_⟩
  cases m with
  | zero => exact .inl w
  | succ m =>
    rcases w with w | ⟨go, w⟩
    · exact .inl w
    · exact .inr ⟨go, lp J g tb D m (i + 1), fun σ' H' q => ⟨m, Nat.lt_succ_self _, q⟩, w⟩
/-- a comprehension's turns -/
def lpc (J : It) (g : TG) (tt : TT) (te : TE) (vs : List Nat) (σ : St) (D : Addr) (Q : VK) : Nat → Nat → Hp → Prop
  | 0, i, H => J.stop i H ∧ Q (.ref D) H
  | n + 1, i, H => (J.stop i H ∧ Q (.ref D) H) ∨ (J.go i H ∧ ∀ x H', J.yld i H x H' → g x (wipe σ vs) H' fun σ2 H2 => wipe σ2 vs = wipe σ vs ∧ tt σ2 H2 fun b H3 =>
      if b = true then te σ2 H3 fun y H4 => ∃ acc, H4 D = some (.lst acc) ∧ acc.length < sizeLine ∧ lpc J g tt te vs σ D Q n (i + 1) (upd H4 D (.lst (acc ++ [y]))) else lpc J g tt te vs σ D Q n (i + 1) H3)
def cLc (wi : TI) (g : TG) (tt : TT) (te : TE) (vs : List Nat) : TE := fun σ H Q => wi σ H fun J H1 => ∀ D, H1 D = none → ∃ n, lpc J g tt te vs σ D Q n 0 (upd H1 D (.lst []))
theorem lpc_W {J : It} {g : TG} {tt : TT} {te : TE} {vs : List Nat} {σ : St} {D : Addr} {Q : VK} {H1 : Hp} (h : ∃ n, lpc J g tt te vs σ D Q n 0 H1) :
    ∃ W : Nat → Nat → Hp → Prop, (∃ m, W 0 m H1) ∧ ∀ i m H, W i m H →
      (J.stop i H ∧ Q (.ref D) H) ∨ (J.go i H ∧ ∃ Nx : Hp → Prop, (∀ H', Nx H' → ∃ m', m' < m ∧ W (i + 1) m' H') ∧ ∀ x H', J.yld i H x H' → g x (wipe σ vs) H' fun σ2 H2 => wipe σ2 vs = wipe σ vs ∧ tt σ2 H2 fun b H3 =>
        if b = true then te σ2 H3 fun y H4 => ∃ acc, H4 D = some (.lst acc) ∧ acc.length < sizeLine ∧ Nx (upd H4 D (.lst (acc ++ [y]))) else Nx H3) := by
  obtain ⟨n, h⟩ := h
  refine ⟨fun i m H => lpc J g tt te vs σ D Q m i H, ⟨n, h⟩, fun i m H w => ?_⟩
  cases m with
  | zero => exact .inl w
  | succ m =>
    rcases w with w | ⟨go, w⟩
    · exact .inl w
    · exact .inr ⟨go, lpc J g tt te vs σ D Q m (i + 1), fun H' q => ⟨m, Nat.lt_succ_self _, q⟩, w⟩
/-- a while's turns -/
def lpw (c : TT) (tb : TS) (D : Ends) : Nat → St → Hp → Prop
  | 0, _, _ => False
  | n + 1, σ, H => c σ H fun b H1 => if b = true then tb { D with nx := lpw c tb D n, ct := lpw c tb D n, bk := D.nx } σ H1 else D.nx σ H1
def cWhile (c : TT) (tb : TS) : TS := fun D σ H => ∃ n, lpw c tb D n σ H
end WR

set_option Elab.async false
set_option linter.all false
set_option maxRecDepth 100000
set_option maxHeartbeats 4000000
namespace WR
open PySem PySem.Spec PyProof.Rows L2

/-! ## 16. readings closed upwards -/
def upE (t : TE) : TE := fun σ H Q => ∃ Q0 : VK, t σ H Q0 ∧ ∀ v H', Q0 v H' → Q v H'
def upT (t : TT) : TT := fun σ H Q => ∃ Q0 : Bool → Hp → Prop, t σ H Q0 ∧ ∀ v H', Q0 v H' → Q v H'
def upI (t : TI) : TI := fun σ H R => ∃ R0 : It → Hp → Prop, t σ H R0 ∧ ∀ J H', R0 J H' → R J H'
section
variable {X : Cx}
theorem PE_up {e : Expr} {t : TE} (h : PE X e t) : PE X e (upE t) := ⟨fun pins s σ H Q I ⟨Q0, q, k⟩ => thn (h.run pins s σ H Q0 I q) fun _ _ ⟨v, H', I', r, z⟩ => ⟨v, H', I', r, k v H' z⟩⟩
theorem PT_up {e : Expr} {t : TT} (h : PT X e t) : PT X e (upT t) := ⟨fun pins s σ H Q I ⟨Q0, q, k⟩ => thn (h.run pins s σ H Q0 I q) fun _ _ ⟨H', I', z⟩ => ⟨H', I', k _ H' z⟩⟩
theorem PI_up {tg l : Expr} {t : TI} (h : PI X tg l t) : PI X tg l (upI t) := ⟨fun pins s σ H R I ⟨R0, q, k⟩ => thn (h.run pins s σ H R0 I q) fun _ _ z => thn z fun _ _ ⟨it, fp, tn, J, H', a, b, c, d, e, f⟩ => ⟨it, fp, tn, J, H', a, b, c, d, e, k J H' f⟩⟩
theorem pe_and' {a b : Expr} {rest : List Expr} {pos : Pos} {ta tb : TE} (ha : PE X a ta) (hb : PE X (.BoolOp .And (b :: rest) pos) tb) : PE X (.BoolOp .And (a :: b :: rest) pos) (cAnd X.K ta tb) :=
  PE_imp (pe_andT (PE_up ha) hb) fun σ H Q h => ⟨_, h, fun x H1 q => by
    try dsimp only at q
    split at q
    · rename_i e; exact ⟨true, oTru_ok e, iteT q⟩
    · rename_i e; exact ⟨false, oTru_ok e, iteF q⟩
    · exact q.elim⟩
theorem pe_or' {a b : Expr} {rest : List Expr} {pos : Pos} {ta tb : TE} (ha : PE X a ta) (hb : PE X (.BoolOp .Or (b :: rest) pos) tb) : PE X (.BoolOp .Or (a :: b :: rest) pos) (cOr X.K ta tb) :=
  PE_imp (pe_orT (PE_up ha) hb) fun σ H Q h => ⟨_, h, fun x H1 q => by
    try dsimp only at q
    split at q
    · rename_i e; exact ⟨true, oTru_ok e, iteT q⟩
    · rename_i e; exact ⟨false, oTru_ok e, iteF q⟩
    · exact q.elim⟩
theorem pe_not' {a : Expr} {pos : Pos} {ta : TE} (ha : PE X a ta) : PE X (.UnaryOp .Not a pos) (cNot X.K ta) :=
  PE_imp (pe_notT (PE_up ha)) fun σ H Q h => ⟨_, h, fun x H1 q => by
    try dsimp only at q
    split at q
    · rename_i e; exact ⟨_, oTru_ok e, q⟩
    · exact q.elim⟩
theorem pe_neg' {a : Expr} {pos : Pos} {ta : TE} (ha : PE X a ta) : PE X (.UnaryOp .USub a pos) (cUn ta) :=
  PE_imp (pe_un un_neg (PE_up ha)) fun σ H Q h => ⟨_, h, fun x H1 q => by
    try dsimp only at q
    split at q
    · exact ⟨_, rfl, q⟩
    · exact q.elim⟩
theorem pt_tru' {e : Expr} {t : TE} (h : PE X e t) (he : ∀ whole, isTrue e X.env whole = (do let v ← whole; standAt e.pos; holding [v] (truthy v))) : PT X e (cTru X.K t) :=
  PT_imp (pt_truth (PE_up h) he) fun σ H Q h => ⟨_, h, fun x H1 q => by
    try dsimp only at q
    split at q
    · rename_i e; exact ⟨_, oTru_ok e, q⟩
    · exact q.elim⟩
theorem pt_cmp' {a b : Expr} {op : CmpOp} {r : R2} {pos : Pos} {ta tb : TE} (ho : OpR X (compareOp op) r) (ha : PE X a ta) (hb : PE X b tb) (hm : behindInMarks op b = false) : PT X (.Compare a [op] [b] pos) (cTest (tOp r ta tb)) := by
  refine PT_imp (pt_cmpR (r := fun x y H Q => ∃ Q0, r x y H Q0 ∧ ∀ v H', Q0 v H' → Q v H') (fun pins s σ H x y v u Q I rx ry ⟨Q0, q, k⟩ => thn (ho pins s σ H x y v u Q0 I rx ry q) fun _ _ ⟨v, H', I', r, z⟩ => ⟨v, H', I', r, k v H' z⟩) (PE_up ha) (PE_up hb) hm) fun σ H Q h => ?_
  refine ⟨_, h, fun x H1 q => ⟨_, q, fun y H2 q => ⟨_, q, fun z H3 q => ?_⟩⟩⟩
  try dsimp only at q
  split at q
  · exact ⟨_, rfl, q⟩
  · exact q.elim
theorem opUp {f : Value → Value → Sem Value} {r : R2} (ho : OpR X f r) : OpR X f (fun x y H Q => ∃ Q0 : VK, r x y H Q0 ∧ ∀ v H', Q0 v H' → Q v H') := fun pins s σ H x y v u Q I rx ry ⟨Q0, q, k⟩ => thn (ho pins s σ H x y v u Q0 I rx ry q) fun _ _ ⟨v, H', I', r, z⟩ => ⟨v, H', I', r, k v H' z⟩
theorem pe_chain' {a b c : Expr} {op op' : CmpOp} {r r' : R2} {pos : Pos} {ta tb tc : TE} (ho : OpR X (compareOp op) r) (ho' : OpR X (compareOp op') r') (ha : PE X a ta) (hb : PE X b tb) (hc : PE X c tc) (hm : lastMarks [op, op'] [b, c] = false) :
    PE X (.Compare a [op, op'] [b, c] pos) (cChain r r' ta tb tc) := by
  refine PE_imp (pe_chain (opUp ho) ho' (PE_up ha) (PE_up hb) hc hm) fun σ H Q h => ?_
  refine ⟨_, h, fun x H1 q => ⟨_, q, fun y H2 q => ⟨_, q, fun z H3 q => ?_⟩⟩⟩
  try dsimp only at q
  split at q
  · exact ⟨true, rfl, iteT q⟩
  · exact ⟨false, rfl, iteF q⟩
  · exact q.elim
theorem pt_chain' {a b c : Expr} {op op' : CmpOp} {r r' : R2} {pos : Pos} {ta tb tc : TE} (ho : OpR X (compareOp op) r) (ho' : OpR X (compareOp op') r') (ha : PE X a ta) (hb : PE X b tb) (hc : PE X c tc) (hm : lastMarks [op, op'] [b, c] = false) :
    PT X (.Compare a [op, op'] [b, c] pos) (cTest (cChain r r' ta tb tc)) := by
  refine PT_imp (pt_chain (opUp ho) (opUp ho') (PE_up ha) (PE_up hb) (PE_up hc) hm) fun σ H Q h => ?_
  refine ⟨_, h, fun x H1 q => ⟨_, q, fun y H2 q => ⟨_, q, fun z H3 q => ?_⟩⟩⟩
  try dsimp only at q
  split at q
  · refine ⟨true, rfl, iteT ?_⟩
    refine ⟨_, q, fun w H4 q => ⟨_, q, fun z2 H5 q => ?_⟩⟩
    try dsimp only at q
    split at q
    · exact ⟨_, rfl, q⟩
    · exact q.elim
  · exact ⟨false, rfl, iteF ⟨_, rfl, q⟩⟩
  · exact q.elim
theorem po_part' {e : Expr} {t : TE} (h : PE X e t) : PO X (some e) (cPart t) := by
  have z := po_some (PE_up h)
  refine ⟨fun pins s σ H Q I q => z.run pins s σ H Q I ⟨_, q, fun x H1 q => ?_⟩⟩
  try dsimp only at q
  split at q
  · exact ⟨_, rfl, q⟩
  · exact q.elim
/-- iterables -/
def upA (t : TA) : TA := fun σ H Q => ∃ Q0 : List V → Hp → Prop, t σ H Q0 ∧ ∀ v H', Q0 v H' → Q v H'
theorem PA_up {es : List Expr} {t : TA} (h : PA X es t) : PA X es (upA t) := ⟨fun ps pins s σ H Q I ⟨Q0, q, k⟩ => thn (h.run ps pins s σ H Q0 I q) fun _ _ ⟨v, H', I', r, z⟩ => ⟨v, H', I', r, k v H' z⟩⟩
theorem star1 {a : Expr} {env : Env} (h : notStar a = true) : starEach [a] env = [(false, eval a env)] := star_of h
theorem pi_rng1' {tg a : Expr} {ta : TA} {p pos : Pos} (hg : Gl X "range") (hm : X.mg "range" = none) (h1 : notStar a = true) (ha : PA X [a] ta) : PI X tg (.Call (.Name "range" p) [a] [] pos) (cRng1 ta) :=
  PI_imp (pi_range1 hg hm (PA_up ha) (star1 h1)) fun σ H R h => ⟨_, h, fun vs H1 q => by
    try dsimp only at q
    split at q
    · exact ⟨_, rfl, q.1.1, q.1.2, q.2⟩
    · exact q.elim⟩
theorem pi_rng2' {tg a b : Expr} {ta : TA} {p pos : Pos} (hg : Gl X "range") (hm : X.mg "range" = none) (h1 : notStar a = true) (h2 : notStar b = true) (ha : PA X [a, b] ta) : PI X tg (.Call (.Name "range" p) [a, b] [] pos) (cRng2 ta) :=
  PI_imp (pi_range2 hg hm (PA_up ha) ((star_of h1).trans (by rw [star1 h2])) (star1 h2)) fun σ H R h => ⟨_, h, fun vs H1 q => by
    try dsimp only at q
    split at q
    · exact ⟨_, _, rfl, q.1, q.2⟩
    · exact q.elim⟩
theorem pi_rng3' {tg a b c : Expr} {ta : TA} {p pos : Pos} (hg : Gl X "range") (hm : X.mg "range" = none) (h1 : notStar a = true) (h2 : notStar b = true) (h3 : notStar c = true) (ha : PA X [a, b, c] ta) : PI X tg (.Call (.Name "range" p) [a, b, c] [] pos) (cRng3 ta) :=
  PI_imp (pi_range3 hg hm (PA_up ha) (star_of h1) (star_all (by rw [List.all_cons, List.all_cons, h2, h3]; rfl))) fun σ H R h => ⟨_, h, fun vs H1 q => by
    try dsimp only at q
    split at q
    · obtain ⟨n, c, q⟩ := q; exact ⟨_, _, _, n, rfl, c, q⟩
    · exact q.elim⟩
theorem pi_enum' {a : Expr} {elts : List Expr} {kk : Nat} {ta : TA} {p pos tpos : Pos} (hg : Gl X "enumerate") (hm : X.mg "enumerate" = none) (h1 : notStar a = true) (ha : PA X [a] ta) : PI X (.Tuple elts kk tpos) (.Call (.Name "enumerate" p) [a] [] pos) (cEnum X.K ta) :=
  PI_imp (pi_enumB hg hm (PA_up ha) (star1 h1)) fun σ H R h => ⟨_, h, fun vs H1 q => by
    try dsimp only at q
    split at q
    · split at q
      · rename_i e; exact ⟨_, _, rfl, .inl ⟨look_lst e, q⟩⟩
      · rename_i e; exact ⟨_, _, rfl, .inr ⟨look_tup e, q⟩⟩
      · exact q.elim
    · exact q.elim⟩
theorem pi_zip' {a b : Expr} {elts : List Expr} {kk : Nat} {ta : TA} {p pos tpos : Pos} (hg : Gl X "zip") (hm : X.mg "zip" = none) (h1 : notStar a = true) (h2 : notStar b = true) (ha : PA X [a, b] ta) : PI X (.Tuple elts kk tpos) (.Call (.Name "zip" p) [a, b] [] pos) (cZip X.K ta) :=
  PI_imp (pi_zip hg hm (PA_up ha) (star_of h1) (star_all (by rw [List.all_cons, h2]; rfl))) fun σ H R h => ⟨_, h, fun vs H1 q => by
    try dsimp only at q
    split at q
    · split at q
      · rename_i e f; exact ⟨_, _, _, _, rfl, look_lst e, look_lst f, q⟩
      · exact q.elim
    · exact q.elim⟩
theorem pi_rev' {tg a : Expr} {ta : TA} {p pos : Pos} (hg : Gl X "reversed") (hm : X.mg "reversed" = none) (h1 : notStar a = true) (ha : PA X [a] ta) : PI X tg (.Call (.Name "reversed" p) [a] [] pos) (cRev X.K ta) :=
  PI_imp (pi_reversed hg hm (PA_up ha) (star1 h1)) fun σ H R h => ⟨_, h, fun vs H1 q => by
    try dsimp only at q
    split at q
    · split at q
      · rename_i e; exact ⟨_, _, rfl, look_lst e, q⟩
      · exact q.elim
    · exact q.elim⟩
theorem pi_view' {tg e : Expr} {td : TE} {apos cpos : Pos} {m : Str} {k : Nat} (he : PE X e td) (hb : baseOk e = true) (hl : (apos.endLine == cpos.line) = true) (hk : (m = "keys" ∧ k = 0) ∨ (m = "values" ∧ k = 1) ∨ (m = "items" ∧ k = 2 ∧ ∃ elts kk tpos, tg = .Tuple elts kk tpos)) :
    PI X tg (.Call (.Attribute e m apos) [] [] cpos) (cDview k td) := by
  rcases hk with ⟨rfl, rfl⟩ | ⟨rfl, rfl⟩ | ⟨rfl, rfl, elts, kk, tpos, rfl⟩
  · refine PI_imp (pi_keysM (PE_up he) (base_of hb) hl) fun σ H R h => ⟨_, h, fun x H1 q => ?_⟩
    try dsimp only at q
    split at q
    · split at q
      · rename_i e; exact ⟨_, _, _, rfl, e, q⟩
      · exact q.elim
    · exact q.elim
  · refine PI_imp (pi_values (PE_up he) (base_of hb) hl) fun σ H R h => ⟨_, h, fun x H1 q => ?_⟩
    try dsimp only at q
    split at q
    · split at q
      · rename_i e; exact ⟨_, _, _, rfl, e, q⟩
      · exact q.elim
    · exact q.elim
  · refine PI_imp (pi_items (PE_up he) (base_of hb) hl) fun σ H R h => ⟨_, h, fun x H1 q => ?_⟩
    try dsimp only at q
    split at q
    · split at q
      · rename_i e; exact ⟨_, _, _, rfl, e, q⟩
      · exact q.elim
    · exact q.elim
end
end WR

set_option Elab.async false
set_option linter.all false
set_option maxRecDepth 100000
set_option maxHeartbeats 4000000
namespace WR
open PySem PySem.Spec PyProof.Rows L2

/-! ## 17. targets -/
abbrev wNone : WX := fun _ _ _ _ => False
def cTupG (K : PySem.W.Frag) (n : Nat) (t : TGs) : TG := fun v σ H Q => match v with
  | .ref a => (match look K H a with
    | some (.tup xs) => xs.length = n ∧ t xs σ H Q
    | _ => False)
  | _ => False
/-- o[i] = v -/
def oSet : TSet := fun o i v H Q => match o with
  | .ref p => (match H p with
    | some (.lst xs) => (match i with
      | .int k => (match ixN xs.length k with
        | some j => Q (upd H p (.lst (xs.set j v)))
        | none => False)
      | _ => False)
    | some (.dK kvs) => (match keyOf i with
      | some k => kvs.length < sizeLine ∧ Q (upd H p (.dK (putK kvs k v)))
      | none => ∃ H', DPut H p i v H' ∧ Q H')
    | some (.dT kvs) => ∃ H', DPut H p i v H' ∧ Q H'
    | _ => False)
  | _ => False
def notSlice : Expr → Bool
  | .Slice _ _ _ _ => false
  | _ => true
def starOf : List Expr → Option (Expr × Expr)
  | [a, .Starred b _] => some (a, b)
  | _ => none
mutual
def tG (K : PySem.W.Frag) (f : Expr → OE) (N : List Str) (sc : Scope) (okc : Str → Bool) : Nat → Expr → Option (WX → TG)
  | 0, _ => none
  | n + 1, .Name x _ => if plainName x = true then (match sc.names.lookup x with
      | some .local => (ix? N x).map fun i _ => gName i
      | some .cell => if okc x = true then (ix? N x).map fun i _ => gName i else none
      | _ => none) else none
  | n + 1, .Tuple es _ _ => if es.all notStar = true then (tGs K f N sc okc n es).map fun t W => cTupG K es.length (t W) else (match starOf es with
      | some (a, b) => (tGs K f N sc okc n [a, b]).map fun t W => cStarG K (t W)
      | none => none)
  | n + 1, .Subscript o i _ => if notSlice i = true then (match f o, f i with
      | some to, some ti => some fun W => gSub (to W) (ti W) oSet
      | _, _ => none) else none
  | _, _ => none
def tGs (K : PySem.W.Frag) (f : Expr → OE) (N : List Str) (sc : Scope) (okc : Str → Bool) : Nat → List Expr → Option (WX → TGs)
  | 0, _ => none
  | _ + 1, [] => some fun _ => gNil
  | n + 1, e :: es => if notStar e = true then (match tG K f N sc okc n e, tGs K f N sc okc n es with
      | some t, some u => some fun W => gCons (t W) (u W)
      | _, _ => none) else none
end
section
variable {X : Cx}
theorem r_set (hu : X.A.units + 1 < cLine) : PSet X oSet := by
  intro pins s σ H o i v ov iv u Q I ro ri rv h
  unfold oSet at h
  split at h
  · rename_i p
    have dput : ∀ H', DPut H p i v H' → Q H' → wpAny (model X.prog X.w) X.A (setItem ov iv u) (fun _ s' => ∃ H', Inv X pins σ H' s' ∧ Q H') X.xe s := fun H' g q => by
      cases ro
      exact d_setItem hu I g ri rv fun s' I' => ⟨H', I', q⟩
    split at h
    · rename_i xs e
      split at h
      · split at h
        · rename_i j ej
          exact set_list pins s σ H _ _ v ov iv u Q I ro ri rv ⟨_, _, _, j, rfl, rfl, e, ej, h⟩
        · exact h.elim
      · exact h.elim
    · rename_i kvs e
      split at h
      · rename_i k ek
        refine dput _ ?_ h.2
        rw [keyOf_kV ek]
        exact DPut.k e h.1
      · obtain ⟨H', g, q⟩ := h
        exact dput H' g q
    · obtain ⟨H', g, q⟩ := h
      exact dput H' g q
    · exact h.elim
  · exact h.elim
theorem assign_star {es : List Expr} {e : Expr} {env : Env} (h : notStar e = true) : assignEach (e :: es) env = (false, assign e env) :: assignEach es env := by
  cases e <;> first | rfl | exact absurd h Bool.false_ne_true
theorem assign_len : ∀ {es : List Expr} {env : Env}, (assignEach es env).length = es.length
  | [], _ => rfl
  | e :: es, env => by
    cases e <;> exact congrArg Nat.succ assign_len
theorem assign_none : ∀ {es : List Expr} {env : Env}, es.all notStar = true → (assignEach es env).findIdx? (·.1) = none
  | [], _, _ => rfl
  | e :: es, env, h => by
    rw [List.all_cons, Bool.and_eq_true] at h
    rw [assign_star h.1, List.findIdx?_cons]
    simp [assign_none h.2]
/-- expressions are read rightly at X -/
def SE (X : Cx) (W : WX) (f : Expr → OE) : Prop := ∀ e t, f e = some t → PE X e (t W)
def ST (X : Cx) (W : WX) (f : Expr → Option (WX → TT)) : Prop := ∀ e t, f e = some t → PT X e (t W)
theorem tArgs_ok {f : Expr → OE} {W : WX} (h : SE X W f) : ∀ {es : List Expr} {t : WX → TA}, tArgs f es = some t → PA X es (t W) ∧ es.all notStar = true ∧ (es = [] → t W = tNil)
  | [], t, e => by cases e; exact ⟨pa_nil, rfl, fun _ => rfl⟩
  | e :: es, t, q => by
    unfold tArgs at q
    split at q
    · rename_i hs
      split at q
      · rename_i te tr e1 e2
        cases q
        obtain ⟨p1, p2, p3⟩ := tArgs_ok h e2
        exact ⟨pa_cons (h _ _ e1) p1 (star_of hs), by rw [List.all_cons, hs, p2]; rfl, fun z => nomatch z⟩
      · cases q
    · cases q
theorem tKws_ok {f : Expr → OE} {W : WX} (h : SE X W f) : ∀ {es : List Keyword} {t : WX → TA}, tKws f es = some t → PK X es (t W) ∧ (es = [] → t W = tNil)
  | [], t, e => by cases e; exact ⟨pk_nil, fun _ => rfl⟩
  | ⟨nm, v, p⟩ :: es, t, q => by
    unfold tKws at q
    split at q
    · rename_i te tr e1 e2
      cases q
      obtain ⟨p1, p2⟩ := tKws_ok h e2
      exact ⟨pk_cons (h _ _ e1) p1, fun z => nomatch z⟩
    · cases q
theorem tBool_ok {f : Expr → OE} {W : WX} (h : SE X W f) (b : Bool) {pos : Pos} : ∀ {es : List Expr} {t : WX → TE}, tBool X.K f b es = some t → PE X (.BoolOp (if b then .And else .Or) es pos) (t W)
  | [], t, e => by cases e
  | [e], t, q => pe_one (h _ _ q)
  | e :: e2 :: es, t, q => by
    unfold tBool at q
    split at q
    · rename_i ta tb e1 e2
      cases q
      have hb := tBool_ok h b (pos := pos) e2
      cases b with
      | true => exact pe_and' (h _ _ e1) hb
      | false => exact pe_or' (h _ _ e1) hb
    · cases q
theorem tBoolT_ok {f : Expr → Option (WX → TT)} {W : WX} (h : ST X W f) (b : Bool) {pos : Pos} : ∀ {es : List Expr} {t : WX → TT}, tBoolT f b es = some t → PW X (.BoolOp (if b then .And else .Or) es pos) (t W)
  | [], t, e => by cases e
  | [e], t, q => by
    cases b with
    | true => exact pw_and1 (h _ _ q)
    | false => exact pw_or1 (h _ _ q)
  | e :: e2 :: es, t, q => by
    unfold tBoolT at q
    split at q
    · rename_i ta tb e1 e2
      cases q
      have hb := tBoolT_ok h b (pos := pos) e2
      cases b with
      | true => exact pw_and (h _ _ e1) hb
      | false => exact pw_or (h _ _ e1) hb
    · cases q
theorem tPairs_ok {f : Expr → OE} {W : WX} (h : SE X W f) {pos : Pos} : ∀ {ks : List (Option Expr)} {vs : List Expr} {trs : List (WX → TE × TE)}, tPairsL f ks vs = some trs → PPs X pos ks vs (trs.map fun t => t W) ∧ ks.all (·.isSome) = true ∧ ks.length = vs.length
  | [], [], trs, q => by cases q; exact ⟨pps_nil, rfl, rfl⟩
  | some k :: ks, v :: vs, trs, q => by
    unfold tPairsL at q
    split at q
    · rename_i tk tv r e1 e2 e3
      cases q
      obtain ⟨p1, p2, p3⟩ := tPairs_ok h (pos := pos) e3
      exact ⟨pps_cons (h _ _ e1) (h _ _ e2) p1, by rw [List.all_cons, p2]; rfl, by rw [List.length_cons, List.length_cons, p3]⟩
    · cases q
  | none :: _, _, _, q => by simp [tPairsL] at q
  | some _ :: _, [], _, q => by simp [tPairsL] at q
  | [], _ :: _, _, q => by simp [tPairsL] at q
theorem tPartO_ok {f : Expr → OE} {W : WX} (h : SE X W f) : ∀ {o : Option Expr} {t : WX → TO}, tPartO f o = some t → PO X o (t W)
  | none, t, q => by cases q; exact po_none
  | some e, t, q => by
    simp only [tPartO] at q
    split at q
    · rename_i te e1; cases q; exact po_part' (h _ _ e1)
    · cases q
end
section
variable {g : G} {lev : Nat} {X : Cx} {N : List Str} {sc : Scope} {W : WX} {f : Expr → OE} {okc : Str → Bool}
theorem pg_nm (c : COk g lev X N sc W) {x : Str} {pos : Pos} {k : NameKind} {i : Nat} (hk : sc.names.lookup x = some k) (hkk : k = .local ∨ k = .cell) (hf : X.fn x = true ∨ k = .local) (hi : ix? N x = some i) : PG X (.Name x pos) (gName i) := by
  refine pg_name c.nd (by rw [c.hN]; exact ix_get hi) ?_ ?_
  · unfold L2.Loc
    rw [c.hsc, hk]
    rcases hkk with rfl | rfl <;> simp
  · rw [c.hsc, hk]
    rcases hf with z | rfl
    · exact .inl z
    · exact .inr rfl
theorem starOf_ok {es : List Expr} {a b : Expr} (h : starOf es = some (a, b)) : ∃ p, es = [a, .Starred b p] := by
  unfold starOf at h
  split at h
  · cases h; exact ⟨_, rfl⟩
  · cases h
theorem tGs_star {K : PySem.W.Frag} {n : Nat} {a b : Expr} {t : WX → TGs} (h : tGs K f N sc okc n [a, b] = some t) : notStar a = true ∧ notStar b = true := by
  cases n with
  | zero => simp [tGs] at h
  | succ n =>
    simp only [tGs] at h
    split at h
    · rename_i ha
      split at h
      · rename_i e1 e2
        refine ⟨ha, ?_⟩
        cases n with
        | zero => simp [tGs] at e2
        | succ n =>
          simp only [tGs] at e2
          split at e2
          · rename_i hb; exact hb
          · cases e2
      · cases h
    · cases h
theorem pg_star {a b : Expr} {es : List Expr} {k : Nat} {pos : Pos} {t : TGs} (hh : X.A.handled = none) (he : ∃ p, es = [a, .Starred b p]) (na : notStar a = true) (nb : notStar b = true) (h : PGs X [a, b] t) : PG X (.Tuple es k pos) (cStarG X.K t) := by
  obtain ⟨p, rfl⟩ := he
  refine ⟨fun pins s σ H v u Q I r hw => ?_⟩
  obtain ⟨a1, x, xs, tp, rfl, hs, hz, hq⟩ := hw
  cases r
  have ea : assignEach [a, .Starred b p] X.env = [(false, assign a X.env), (true, assign b X.env)] := by rw [assign_star na]; rfl
  have eb : (assignEach [a, b] X.env).map (·.2) = [assign a X.env, assign b X.env] := by rw [assign_star na, assign_star nb]; rfl
  show wpAny _ _ (do standAt pos; unpack (.ref a1) (assignEach [a, .Starred b p] X.env)) _ _ s
  refine wpAny_bind (wpAny_standAt ?_)
  unfold unpack
  rw [ea]
  refine wpAny_bind (wpAny_holding (star_unpack hh I hs hz fun u D s' ru hD I' => ?_))
  have z := h.run pins s' σ _ [x, .ref D] [u, .ref D] _ I' (.cons ru (.cons rfl .nil)) (hq D hD)
  rw [eb] at z
  exact z
mutual
theorem tG_ok (c : COk g lev X N sc W) (h : SE X W f) (ho1 : ∀ x, okc x = true → X.fn x = true) : ∀ (n : Nat) (e : Expr) (t : WX → TG), tG g.K f N sc okc n e = some t → PG X e (t W)
  | 0, e, t, q => by simp [tG] at q
  | n + 1, e, t, q => by
    cases e with
    | Name x pos =>
      simp only [tG] at q
      split at q
      · split at q
        · rename_i hk
          obtain ⟨i, hi, rfl⟩ := Option.map_eq_some_iff.mp q
          exact pg_nm c hk (.inl rfl) (.inr rfl) hi
        · rename_i hk
          split at q
          · rename_i ok
            obtain ⟨i, hi, rfl⟩ := Option.map_eq_some_iff.mp q
            exact pg_nm c hk (.inr rfl) (.inl (ho1 _ ok)) hi
          · cases q
        · cases q
      · cases q
    | Tuple es kk pos =>
      simp only [tG] at q
      split at q
      · rename_i hs
        obtain ⟨u, hu, rfl⟩ := Option.map_eq_some_iff.mp q
        have z := tGs_ok c h ho1 n es _ hu
        refine ⟨fun pins s σ H v w Q I r hw => (pg_tup c.calm z assign_len (assign_none hs)).run pins s σ H v w Q I r ?_⟩
        simp only [cTupG] at hw
        split at hw
        · split at hw
          · rename_i e; exact ⟨_, _, rfl, by rw [c.hK]; exact look_tup e, hw.1, hw.2⟩
          · exact hw.elim
        · exact hw.elim
      · split at q
        · rename_i a b ho
          obtain ⟨u, hu, rfl⟩ := Option.map_eq_some_iff.mp q
          have z := tGs_ok c h ho1 n _ _ hu
          rw [← c.hK]
          exact pg_star c.room.hd (starOf_ok ho) (tGs_star hu).1 (tGs_star hu).2 z
        · cases q
    | Subscript o i pos =>
      simp only [tG] at q
      split at q
      · rename_i hs
        split at q
        · rename_i e1 e2
          cases q
          refine pg_sub (h _ _ e1) (h _ _ e2) (r_set c.hu1) ?_
          intro v
          cases i <;> first | rfl | exact absurd hs Bool.false_ne_true
        · cases q
      · cases q
    | _ => simp [tG] at q
theorem tGs_ok (c : COk g lev X N sc W) (h : SE X W f) (ho : ∀ x, okc x = true → X.fn x = true) : ∀ (n : Nat) (es : List Expr) (t : WX → TGs), tGs g.K f N sc okc n es = some t → PGs X es (t W)
  | 0, e, t, q => by simp [tGs] at q
  | n + 1, [], t, q => by
    simp only [tGs] at q
    cases q
    exact pgs_nil
  | n + 1, e :: es, t, q => by
    simp only [tGs] at q
    split at q
    · rename_i hs
      split at q
      · rename_i e1 e2
        cases q
        exact pgs_cons (tG_ok c h ho n e _ e1) (tGs_ok c h ho n es _ e2) (by rw [assign_star hs]; rfl)
      · cases q
    · cases q
end
end
end WR

set_option Elab.async false
set_option linter.all false
set_option maxRecDepth 100000
set_option maxHeartbeats 4000000
namespace WR
open PySem PySem.Spec PyProof.Rows L2

/-! ## 18. expressions, tests, comprehensions: the whole translation -/
def isTup : Expr → Bool
  | .Tuple _ _ _ => true
  | _ => false
theorem isTup_ex {e : Expr} (h : isTup e = true) : ∃ a b c, e = .Tuple a b c := by
  cases e <;> first | exact ⟨_, _, _, rfl⟩ | exact absurd h Bool.false_ne_true
def tI1 (g : G) (f : Expr → OE) (sc : Scope) (tg : Expr) : Expr → Option (WX → TI)
  | .Call (.Name x _) es [] _ =>
    if sc.names.lookup x = some .globalImplicit ∧ x ∈ g.blt then
      (if x = "range" then (match es, tArgs f es with
        | [_], some t => some fun W => cRng1 (t W)
        | [_, _], some t => some fun W => cRng2 (t W)
        | [_, _, _], some t => some fun W => cRng3 (t W)
        | _, _ => none)
      else if x = "enumerate" ∧ isTup tg = true then (match es, tArgs f es with
        | [_], some t => some fun W => cEnum g.K (t W)
        | _, _ => none)
      else if x = "zip" ∧ isTup tg = true then (match es, tArgs f es with
        | [_, _], some t => some fun W => cZip g.K (t W)
        | _, _ => none)
      else if x = "reversed" then (match es, tArgs f es with
        | [_], some t => some fun W => cRev g.K (t W)
        | _, _ => none)
      else none)
    else none
  | .Call (.Attribute e m apos) [] [] cpos =>
    if baseOk e = true ∧ (apos.endLine == cpos.line) = true then (match f e with
      | some t => if m = "keys" then some fun W => cDview 0 (frzE (t W)) else if m = "values" then some fun W => cDview 1 (frzE (t W)) else if m = "items" ∧ isTup tg = true then some fun W => cDview 2 (frzE (t W)) else none
      | none => none)
    else none
  | _ => none
def tI (g : G) (f : Expr → OE) (sc : Scope) (tg iter : Expr) : Option (WX → TI) :=
  if notSet iter = true then (match tI1 g f sc tg iter with
    | some t => some t
    | none => (f iter).map fun t W => cIter g.K (frzE (t W)))
  else none
def ownOf (N : List Str) (scope : Scope) : List (Str × Nat) := scope.names.filterMap fun y => match y.2 with
  | .local | .cell => (ix? N y.1).map fun i => (y.1, i)
  | _ => none
def tIfs (f : Expr → Option (WX → TT)) : List Expr → Option (WX → TT)
  | [] => some fun _ => tYes
  | [e] => f e
  | _ => none
def okBlk (scope : Scope) (x : Str) : Bool := scope.names.lookup x == some .cell
/-- a comprehension, the dict that it may walk locked -/
def cLcL (wi : TI) (g : TG) (tt : TT) (te : TE) (vs : List Nat) : TE := fun σ H Q => cLc wi g tt te vs σ H Q ∨ tLockE (cLc wi g tt te vs) σ H Q
def cDcL (wi : TI) (g : TG) (tt : TT) (tk tv : TE) (vs : List Nat) : TE := fun σ H Q => cDc wi g tt tk tv vs σ H Q ∨ tLockE (cDc wi g tt tk tv vs) σ H Q
def tArts (f : Expr → OE) : List Expr → Option (List (WX → TE))
  | [] => some []
  | e :: es => match f e, tArts f es with
      | some te, some t => some (te :: t)
      | _, _ => none
def plainTest : Expr → Bool
  | .Name _ _ | .Call _ _ _ _ | .Attribute _ _ _ | .Subscript _ _ _ | .Constant _ _ _ | .BinOp _ _ _ _ => true
  | _ => false
def isM1 : Expr → Bool
  | .UnaryOp .USub (.Constant (.int i) _ _) _ => i == 1
  | _ => false
theorem isM1_ok {e : Expr} (h : isM1 e = true) : ∃ k p1 p2, e = .UnaryOp .USub (.Constant (.int 1) k p1) p2 := by
  unfold isM1 at h
  split at h
  · rw [beq_iff_eq] at h
    subst h
    exact ⟨_, _, _, rfl⟩
  · cases h
mutual
def tE (g : G) : Nat → List Str → Scope → Expr → OE
  | 0, _, _, _ => none
  | n + 1, N, sc, e => match e with
    | .Constant c _ _ => (match c with
      | .int i => some fun _ => tC (.int i)
      | .bool b => some fun _ => tC (.bl b)
      | .none => some fun _ => tC .non
      | .str s => some fun _ => tC (.str s)
      | _ => none)
    | .Name x _ => (tName g N sc x).map fun t _ => t
    | .BinOp a op b _ => (match opR g.K op, tE g n N sc a, tE g n N sc b with
      | some r, some ta, some tb => some fun W => tOp r (ta W) (tb W)
      | _, _, _ => none)
    | .Compare a [op] [b] _ => if notSet b = true then (match cmpR g op, tE g n N sc a, tE g n N sc b with
      | some r, some ta, some tb => some fun W => tOp r (ta W) (tb W)
      | _, _, _ => none) else none
    | .Compare a [op, op'] [b, c] _ => if notSet c = true then (match cmpR g op, cmpR g op', tE g n N sc a, tE g n N sc b, tE g n N sc c with
      | some r, some r', some ta, some tb, some tc => some fun W => cChain r r' (ta W) (tb W) (tc W)
      | _, _, _, _, _ => none) else none
    | .BoolOp .And es _ => tBool g.K (tE g n N sc) true es
    | .BoolOp .Or es _ => tBool g.K (tE g n N sc) false es
    | .UnaryOp .Not a _ => (tE g n N sc a).map fun t W => cNot g.K (t W)
    | .UnaryOp .USub a _ => (tE g n N sc a).map fun t W => cUn (t W)
    | .IfExp c a b _ => (match tT g n N sc c, tE g n N sc a, tE g n N sc b with
      | some tc, some ta, some tb => some fun W => tIf (tc W) (ta W) (tb W)
      | _, _, _ => none)
    | .Call (.Name x _) es kws _ => (match tListV g (tE g n N sc) sc x es kws with
      | some t => some t
      | none => (match tKeyed g (tE g n N sc) sc x es kws with
        | some t => some t
        | none => tCallName g (tE g n N sc) sc x es kws))
    | .Call (.Attribute o m apos) es kws pos => if baseOk o = true ∧ (apos.endLine == pos.line) = true ∧ es.length + kws.length < 29 then
        (match kwNames kws, tE g n N sc o, tArgs (tE g n N sc) es, tKws (tE g n N sc) kws with
        | some ks, some ta, some t, some tk => some fun W => cMeth g.K m es.length ks.length (g.mts.filter fun i => decide (i.name = m) && decide (i.n = es.length) && decide (i.ks = ks)) ((bms g.K).filter fun b => decide (b.name = m)) (ta W) (t W) (tk W) W
        | _, _, _, _ => none) else none
    | .List es _ => (tArgs (tE g n N sc) es).map fun t W => tLst (t W)
    | .Tuple es _ _ => (tArgs (tE g n N sc) es).map fun t W => tTup (t W)
    | .Dict ks vs _ => tDict (tE g n N sc) ks vs
    | .Subscript a (.Slice lo hi none _) _ => (match tE g n N sc a, tPartO (tE g n N sc) lo, tPartO (tE g n N sc) hi with
      | some ta, some tl, some th => some fun W => tSl (oSl g.K) (ta W) (tl W) (th W)
      | _, _, _ => none)
    | .Subscript a (.Slice none none (some st) _) _ => if isM1 st = true then (tE g n N sc a).map fun t W => cRevS g.K (t W) else none
    | .Subscript a b _ => if notSlice b = true then (match tE g n N sc a, tE g n N sc b with
      | some ta, some tb => some fun W => tOp (oIx g.K) (ta W) (tb W)
      | _, _ => none) else none
    | .Attribute o a _ => if baseOk o = true then (match g.ats.lookup a, tE g n N sc o with
      | some cs, some to => some fun W => cAttr cs a (to W)
      | _, _ => none) else none
    | .ListComp elt [⟨tg, iter, ifs, 0⟩] scope _ =>
      if blkC N sc scope (ownOf N scope) = true then
        (match tI g (tE g n N sc) sc tg iter, tG g.K (tE g n N (relS scope sc)) N (relS scope sc) (okBlk scope) 12 tg, tIfs (tT g n N (relS scope sc)) ifs, tE g n N (relS scope sc) elt with
        | some wi, some gt, some tt, some te => some fun W => cLcL (wi W) (gt wNone) (tt wNone) (te wNone) ((ownOf N scope).map (·.2))
        | _, _, _, _ => none)
      else none
    | .DictComp kx vx [⟨tg, iter, ifs, 0⟩] scope _ =>
      if blkC N sc scope (ownOf N scope) = true then
        (match tI g (tE g n N sc) sc tg iter, tG g.K (tE g n N (relS scope sc)) N (relS scope sc) (okBlk scope) 12 tg, tIfs (tT g n N (relS scope sc)) ifs, tE g n N (relS scope sc) kx, tE g n N (relS scope sc) vx with
        | some wi, some gt, some tt, some tk, some tv => some fun W => cDcL (wi W) (gt wNone) (tt wNone) (tk wNone) (tv wNone) ((ownOf N scope).map (·.2))
        | _, _, _, _, _ => none)
      else none
    | .FormattedValue e cv none _ => if cv = -1 then (tE g n N sc e).map fun t W => cFmt (t W) else none
    | .JoinedStr (e1 :: e2 :: es) _ => (tArts (tE g n N sc) (e1 :: e2 :: es)).map fun ts W σ H Q => cJs (ts.map fun t => t W) Str.empty σ H fun out H1 => Q (.str out) H1
    | .JoinedStr [e1] _ => tE g n N sc e1
    | _ => none
def tT (g : G) : Nat → List Str → Scope → Expr → Option (WX → TT)
  | 0, _, _, _ => none
  | n + 1, N, sc, e => match e with
    | .Compare a [op] [b] _ => if notSet b = true then (match cmpR g op, tE g n N sc a, tE g n N sc b with
      | some r, some ta, some tb => some fun W => cTest (tOp r (ta W) (tb W))
      | _, _, _ => none) else none
    | .Compare a [op, op'] [b, c] _ => if notSet c = true then (match cmpR g op, cmpR g op', tE g n N sc a, tE g n N sc b, tE g n N sc c with
      | some r, some r', some ta, some tb, some tc => some fun W => cTest (cChain r r' (ta W) (tb W) (tc W))
      | _, _, _, _, _ => none) else none
    | .BoolOp .And es _ => tBoolT (tT g n N sc) true es
    | .BoolOp .Or es _ => tBoolT (tT g n N sc) false es
    | .UnaryOp .Not a _ => (tT g n N sc a).map fun t W => tNot (t W)
    | e => if plainTest e = true then (tE g n N sc e).map fun t W => cTru g.K (t W) else none
end
section
variable {g : G} {lev : Nat} {X : Cx} {N : List Str} {sc : Scope} {W : WX} {f : Expr → OE}
theorem tI1_ok (c : COk g lev X N sc W) (h : SE X W f) {tg iter : Expr} {t : WX → TI} (q : tI1 g f sc tg iter = some t) : PI X tg iter (t W) := by
  unfold tI1 at q
  split at q
  · rename_i x p es pos
    split at q
    · rename_i hx
      have hg : Gl X x := by unfold Gl Env.kindOf; rw [c.hsc]; exact hx.1
      have hm := c.gok.blt x hx.2
      split at q
      · rename_i e
        subst e
        split at q
        · rename_i e1; cases q
          obtain ⟨p1, p2, p3⟩ := tArgs_ok h e1
          simp only [List.all_cons, List.all_nil, Bool.and_true] at p2
          exact pi_rng1' hg hm p2 p1
        · rename_i e1; cases q
          obtain ⟨p1, p2, p3⟩ := tArgs_ok h e1
          simp only [List.all_cons, List.all_nil, Bool.and_true, Bool.and_eq_true] at p2
          exact pi_rng2' hg hm p2.1 p2.2 p1
        · rename_i e1; cases q
          obtain ⟨p1, p2, p3⟩ := tArgs_ok h e1
          simp only [List.all_cons, List.all_nil, Bool.and_true, Bool.and_eq_true] at p2
          exact pi_rng3' hg hm p2.1 p2.2.1 p2.2.2 p1
        · cases q
      · split at q
        · rename_i e
          obtain ⟨rfl, ht⟩ := e
          obtain ⟨a, b, d, rfl⟩ := isTup_ex ht
          split at q
          · rename_i e1; cases q
            obtain ⟨p1, p2, p3⟩ := tArgs_ok h e1
            simp only [List.all_cons, List.all_nil, Bool.and_true] at p2
            rw [← c.hK]
            exact pi_enum' hg hm p2 p1
          · cases q
        · split at q
          · rename_i e
            obtain ⟨rfl, ht⟩ := e
            obtain ⟨a, b, d, rfl⟩ := isTup_ex ht
            split at q
            · rename_i e1; cases q
              obtain ⟨p1, p2, p3⟩ := tArgs_ok h e1
              simp only [List.all_cons, List.all_nil, Bool.and_true, Bool.and_eq_true] at p2
              rw [← c.hK]
              exact pi_zip' hg hm p2.1 p2.2 p1
            · cases q
          · split at q
            · rename_i e
              subst e
              split at q
              · rename_i e1; cases q
                obtain ⟨p1, p2, p3⟩ := tArgs_ok h e1
                simp only [List.all_cons, List.all_nil, Bool.and_true] at p2
                rw [← c.hK]
                exact pi_rev' hg hm p2 p1
              · cases q
            · cases q
    · cases q
  · split at q
    · rename_i hb
      split at q
      · rename_i e1
        split at q
        · rename_i em; cases q; exact pi_view' (pe_frz (h _ _ e1)) hb.1 hb.2 (.inl ⟨em, rfl⟩)
        · split at q
          · rename_i em; cases q; exact pi_view' (pe_frz (h _ _ e1)) hb.1 hb.2 (.inr (.inl ⟨em, rfl⟩))
          · split at q
            · rename_i em; cases q; exact pi_view' (pe_frz (h _ _ e1)) hb.1 hb.2 (.inr (.inr ⟨em.1, rfl, isTup_ex em.2⟩))
            · cases q
      · cases q
    · cases q
  · cases q
theorem notSet_f {iter : Expr} {env : Env} {x : Value} (h : notSet iter = true) : foldedSetIterable iter env x = pure x := by
  cases iter <;> first | rfl | exact absurd h Bool.false_ne_true
theorem tI_ok (c : COk g lev X N sc W) (h : SE X W f) {tg iter : Expr} {t : WX → TI} (q : tI g f sc tg iter = some t) : PI X tg iter (t W) ∧ notSet iter = true := by
  unfold tI at q
  split at q
  · rename_i hs
    refine ⟨?_, hs⟩
    split at q
    · rename_i e; cases q; exact tI1_ok c h e
    · obtain ⟨u, hu, rfl⟩ := Option.map_eq_some_iff.mp q
      rw [← c.hK]
      exact pi_dyn (pe_frz (h _ _ hu))
  · cases q
theorem tIfs_ok {f : Expr → Option (WX → TT)} (h : ST X W f) : ∀ {es : List Expr} {t : WX → TT}, tIfs f es = some t → PTs X es (t W)
  | [], t, q => by cases q; exact pts_nil
  | [e], t, q => pts_one (h _ _ q)
  | _ :: _ :: _, t, q => by simp [tIfs] at q
theorem cok_blk (c : COk g lev X N sc W) {scope : Scope} {s : Shared} {H : Hp} {C : Addr} {cl : List (Str × Addr)} {fp : List Addr} : COk g lev (X.blk s H scope (compEnvC scope cl C X.env) fp) N (relS scope sc) wNone where
  gok := c.gok
  hK := c.hK
  hN := c.hN
  hsc := by
    have : (compEnvC scope cl C X.env).scope = relS scope X.env.scope := rfl
    exact this.trans (by rw [c.hsc])
  nd := c.nd
  calm := c.calm
  tk := takes0
  room := c.room
  gd := c.gd
  room2 := c.room2
theorem opR_ok (c : COk g lev X N sc W) {op : Operator} {r : R2} (h : opR g.K op = some r) : OpR X (binaryOp op) r := by
  unfold opR at h
  rw [← c.hK] at h
  split at h <;> cases h
  · exact r_add
  · exact r_sub
  · exact r_mul
  · exact r_fdiv
  · exact r_mod
  · exact r_pow
  · exact r_shl
  · exact r_bor
theorem cmpR_ok (c : COk g lev X N sc W) {op : CmpOp} {r : R2} (h : cmpR g op = some r) : OpR X (compareOp op) r := by
  have hu := c.hu
  have hu5 : X.A.units + 65 < cLine := by have := c.room.un; omega
  unfold cmpR at h
  split at h <;> cases h
  · rw [← c.hK]; exact r_ltK hu5
  · exact r_le
  · rw [← c.hK]; exact r_gtK (by omega)
  · rw [← c.hK]; exact r_geK (by omega)
  · exact r_eqG c (by rw [← c.hK]; exact r_eq hu)
  · exact r_neG c (by rw [← c.hK]; exact r_ne hu)
  · rw [← c.hK]; exact r_in hu5
  · rw [← c.hK]; exact r_notin hu5
  · exact r_is
  · exact r_isnot
theorem notSlice_ix {b : Expr} (h : notSlice b = true) : PlainIx b := fun o i => by
  cases b <;> first | rfl | exact absurd h Bool.false_ne_true
end
end WR

set_option Elab.async false
set_option linter.all false
set_option maxRecDepth 100000
set_option maxHeartbeats 4000000
namespace WR
open PySem PySem.Spec PyProof.Rows L2
section
variable {g : G} {lev : Nat} {X : Cx} {N : List Str} {sc : Scope} {W : WX} {f : Expr → OE}
theorem lpd_W {J : It} {g : TG} {tt : TT} {tk tv : TE} {vs : List Nat} {σ : St} {D : Addr} {Q : VK} {H1 : Hp} (h : ∃ n, lpd J g tt tk tv vs σ D Q n 0 H1) :
    ∃ W : Nat → Nat → Hp → Prop, (∃ m, W 0 m H1) ∧ ∀ i m H, W i m H →
      (J.stop i H ∧ Q (.ref D) H) ∨ (J.go i H ∧ ∃ Nx : Hp → Prop, (∀ H', Nx H' → ∃ m', m' < m ∧ W (i + 1) m' H') ∧ ∀ x H', J.yld i H x H' → g x (wipe σ vs) H' fun σ2 H2 => wipe σ2 vs = wipe σ vs ∧ tt σ2 H2 fun b H3 =>
        if b = true then tk σ2 H3 fun y H4 => tv σ2 H4 fun z H5 => ∃ kvs k, y = kV k ∧ H5 D = some (.dK kvs) ∧ kvs.length < sizeLine ∧ Nx (upd H5 D (.dK (putK kvs k z))) else Nx H3) := by
  obtain ⟨n, h⟩ := h
  refine ⟨fun i m H => lpd J g tt tk tv vs σ D Q m i H, ⟨n, h⟩, fun i m H w => ?_⟩
  cases m with
  | zero => exact .inl w
  | succ m =>
    rcases w with w | ⟨go, w⟩
    · exact .inl w
    · exact .inr ⟨go, lpd J g tt tk tv vs σ D Q m (i + 1), fun H' q => ⟨m, Nat.lt_succ_self _, q⟩, w⟩
theorem pe_fmt' {e : Expr} {te : TE} {pos : Pos} (he : PE X e te) : PE X (.FormattedValue e (-1) none pos) (cFmt te) :=
  PE_imp (pe_fmt (PE_up he)) fun σ H Q h => ⟨_, h, fun x H1 q => by
    try dsimp only at q
    split at q
    · exact .inl ⟨_, rfl, q⟩
    · exact .inr ⟨_, rfl, q⟩
    · exact q.elim⟩
theorem tArts_ok {f : Expr → OE} (h : SE X W f) : ∀ {es : List Expr} {ts : List (WX → TE)}, tArts f es = some ts → PJ X es (ts.map fun t => upE (t W))
  | [], ts, e => by cases e; exact .nil
  | e :: es, ts, q => by
    unfold tArts at q
    split at q
    · rename_i te tr e1 e2
      cases q
      exact .cons (PE_up (h _ _ e1)) (tArts_ok h e2)
    · cases q
theorem cJs_up {Wt : WX} : ∀ {ts : List (WX → TE)} {acc : Str} {σ : St} {H : Hp} {Q : Str → Hp → Prop}, cJs (ts.map fun t => t Wt) acc σ H Q → tJs (ts.map fun t => upE (t Wt)) acc σ H Q
  | [], acc, σ, H, Q, h => h
  | t :: ts, acc, σ, H, Q, h => ⟨_, h, fun x H1 q => by
    try dsimp only at q
    split at q
    · exact ⟨_, rfl, q.1, cJs_up q.2⟩
    · exact q.elim⟩
theorem pe_joined' {e1 e2 : Expr} {es : List Expr} {pos : Pos} {ts : List (WX → TE)} (h : PJ X (e1 :: e2 :: es) (ts.map fun t => upE (t W))) : PE X (.JoinedStr (e1 :: e2 :: es) pos) (fun σ H Q => cJs (ts.map fun t => t W) Str.empty σ H fun out H1 => Q (.str out) H1) :=
  PE_imp (pe_joined h) fun σ H Q q => cJs_up q
theorem bltR_ok (c : COk g lev X N sc W) {x : Str} {v : Value} {r : RC} (h : bltR g x = some (v, r)) : CallR X v r ∧ Keeps X v := by
  have hc := c.calm
  have hm := PySem.mem_of_lookup (show (bltTab g).lookup x = some (v, r) from h)
  simp only [bltTab, List.mem_cons, List.not_mem_nil, or_false, Prod.mk.injEq] at hm
  rcases hm with ⟨_, rfl, rfl⟩ | ⟨_, rfl, rfl⟩ | ⟨_, rfl, rfl⟩ | ⟨_, rfl, rfl⟩ | ⟨_, rfl, rfl⟩ | ⟨_, rfl, rfl⟩ | ⟨_, rfl, rfl⟩ | ⟨_, rfl, rfl⟩ | ⟨_, rfl, rfl⟩ | ⟨_, rfl, rfl⟩ | ⟨_, rfl, rfl⟩ | ⟨_, rfl, rfl⟩ | ⟨_, rfl, rfl⟩ | ⟨_, rfl, rfl⟩ | ⟨_, rfl, rfl⟩ | ⟨_, rfl, rfl⟩ | ⟨_, rfl, rfl⟩ | ⟨_, rfl, rfl⟩
  all_goals try rw [← c.hK]
  · exact ⟨b_repr c.gd c.hu (by rw [c.hK]; exact c.gok.sys), keeps_blt⟩
  · exact ⟨b_lenG c (by rw [← c.hK]; exact b_len), keeps_blt⟩
  · exact ⟨b_isi, keeps_blt⟩
  · exact ⟨b_all hc, keeps_blt⟩
  · exact ⟨b_any hc, keeps_blt⟩
  · exact ⟨b_sum hc, keeps_blt⟩
  · exact ⟨b_abs, keeps_blt⟩
  · exact ⟨b_max hc, keeps_blt⟩
  · exact ⟨b_min hc, keeps_blt⟩
  · exact ⟨b_ord, keeps_blt⟩
  · exact ⟨b_int, keeps_ty⟩
  · exact ⟨b_strG c, keeps_ty⟩
  · exact ⟨b_list hc, keeps_ty⟩
  · exact ⟨b_tuple, keeps_ty⟩
  · exact ⟨b_dict hc, keeps_ty⟩
  · exact ⟨b_boolG c, keeps_ty⟩
  · exact ⟨b_sortedX hc c.hu, keeps_blt⟩
  · exact ⟨b_rng, keeps_ty⟩
theorem pe_blt {x : Str} {p pos : Pos} {es : List Expr} {t : TA} {v : Value} {r : RC} (hc : CallR X v r) (hk : Keeps X v) (hg : Gl X x) (hm : X.mg x = none) (hv : bootBuiltins x = some v) (hx : plainName x = true) (hnil : es = [] → t = tNil) (hst : es.all notStar = true) (ha : PA X es t) :
    PE X (.Call (.Name x p) es [] pos) (tCB r t) := by
  refine ⟨fun pins s σ H Q I h => ?_⟩
  refine wpAny_Call_Name_kw (ld_blt I hg hm hv ?_ (plain_n hx) (plain_d hx))
  refine args_of (tk := tNil) (ks := []) (first := []) (R := fun vs zs H2 => zs = [] ∧ r vs H2 Q) hk hnil hst rfl ha pk_nil I (?_ : t σ H fun vs H2 => tNil σ H2 fun zs H3 => zs = [] ∧ r vs H3 Q) fun vs zs us ws s2 H2 I2 r1 rz q => ?_
  · have e : (fun (vs : List V) (H2 : Hp) => tNil σ H2 fun zs H3 => zs = [] ∧ r vs H3 Q) = fun vs H2 => r vs H2 Q := by
      funext vs H2
      exact propext ⟨fun z => z.2, fun z => ⟨rfl, z⟩⟩
    rw [e]
    exact h
  · obtain ⟨rfl, q⟩ := q
    exact hc pins s2 σ H2 vs us Q I2 r1 q
theorem pe_mk (c : COk g lev X N sc W) {i : MkI} {p pos : Pos} {es : List Expr} {kws : List Keyword} {t tk : TA} (hi : i ∈ g.mks) (hn : i.n = es.length) (hks : kwNames kws = some i.ks) (hg : Gl X i.name) (hx : plainName i.name = true) (hnil : es = [] → t = tNil) (hst : es.all notStar = true) (ha : PA X es t) (hw : PK X kws tk) :
    PE X (.Call (.Name i.name p) es kws pos) (cMk i.cls es.length i.ks.length i.arr i.sp t tk W) := by
  obtain ⟨fa, fd, ps, gf, hm, M, F, kb⟩ := c.gok.mks i hi
  rw [← c.hK] at M F kb
  rw [hn] at kb
  refine ⟨fun pins s σ H Q I h => ?_⟩
  refine wpAny_Call_Name_kw (ld_glob I hg hm ?_ (plain_d hx))
  refine args_of (first := []) (R := fun vs zs H2 => vs.length = es.length ∧ zs.length = i.ks.length ∧ ∀ x dx, H2 x = none → H2 dx = none → dx ≠ x → i.sp (.ref x :: i.arr vs zs) (upd (upd H2 dx (.own x)) x (.ins i.cls dx [])) (fun v H3 => v = .non ∧ Q (.ref x) H3) (fun cls d H' => W cls d σ H')) (keeps_ref M.kp) hnil hst hks ha hw I h fun vs zs us ws s2 H2 I2 r rz q => ?_
  obtain ⟨l1, l2, q⟩ := q
  have hq := q (s2.heap.objs.size + 1) s2.heap.objs.size (I2.hok.fresh (Nat.le_succ _)) (I2.hok.fresh (Nat.le_refl _)) (Nat.ne_of_lt (Nat.lt_succ_self _))
  have I3 := Inv.made (C := i.cls) I2
  have r2 : Vals (V.ref (s2.heap.objs.size + 1) :: vs) (Value.ref (s2.heap.objs.size + 1) :: us) := .cons rfl r
  have r3 := kb.rel r2 rz
  have e1 : (Value.ref (s2.heap.objs.size + 1) :: us).length = es.length + 1 := r2.length.symm.trans (congrArg Nat.succ l1)
  have e2 : ws.length = i.ks.length := rz.length.symm.trans l2
  refine wpAny_call (make_map (f := fa) (kw := i.ks.zip ws) I2.kIn M.makes M.init (beq_iff_eq.mp M.fn) (codeAny_mono (F.run _ X.stack _ _ ⟨Value.ref (s2.heap.objs.size + 1) :: us, i.ks.zip ws⟩ (gf (Value.ref (s2.heap.objs.size + 1) :: us) ws) _ _ _ (c.room.make i.cls us (i.ks.zip ws)) (gd_make c.gd i.cls us (i.ks.zip ws))
    (I3.env0.make i.cls us (i.ks.zip ws)) (kb.to _ (Value.ref (s2.heap.objs.size + 1) :: us) ws I3.kIn e1 e2) r3 hq) fun r s' hq' => ?_))
  cases r with
  | error e => exact c.tk e s' (XE.of_call I3 (fun _ _ _ h => h) hq')
  | ok fl =>
    cases fl with
    | ret u =>
      obtain ⟨v, H', I4, rv, ev, q3⟩ := I3.after hq'
      subst ev
      exact ⟨rv, ⟨V.ref (s2.heap.objs.size + 1), H', I4, rfl, q3⟩⟩
    | next => exact False.elim hq'
    | brk => exact False.elim hq'
    | cont => exact False.elim hq'
theorem tCallName_ok (c : COk g lev X N sc W) (h : SE X W f) {x : Str} {p pos : Pos} {es : List Expr} {kws : List Keyword} {t : WX → TE} (q : tCallName g f sc x es kws = some t) : PE X (.Call (.Name x p) es kws pos) (t W) := by
  unfold tCallName at q
  split at q
  · rename_i hx
    have hg : Gl X x := by unfold Gl Env.kindOf; rw [c.hsc]; exact hx.2
    split at q
    · rename_i ks ta tk e1 e2 e3
      obtain ⟨a1, a2, a3⟩ := tArgs_ok h e2
      obtain ⟨b1, b2⟩ := tKws_ok h e3
      split at q
      · rename_i i ei
        cases q
        have hi := List.mem_of_find?_eq_some ei
        have hp := List.find?_some ei
        simp only [Bool.and_eq_true, decide_eq_true_eq] at hp
        obtain ⟨⟨p1, p2⟩, p3⟩ := hp
        obtain ⟨fa, fd, ps, gf, m1, m2, F, kb⟩ := c.gok.fns i hi
        rw [← c.hK] at m2 F kb
        rw [p1] at m1
        rw [p2, p3] at kb
        exact pe_own F c.room0 c.gd kb c.tk hg m1 m2 hx.1 a3 a2 e1 a1 b1
      · split at q
        · rename_i i ei
          cases q
          have hi := List.mem_of_find?_eq_some ei
          have hp := List.find?_some ei
          simp only [Bool.and_eq_true, decide_eq_true_eq] at hp
          obtain ⟨⟨p1, p2⟩, p3⟩ := hp
          subst p1 p3
          exact pe_mk c hi p2 e1 hg hx.1 a3 a2 a1 b1
        · split at q
          · rename_i hb
            obtain ⟨hb, rfl, hne⟩ := hb
            split at q
            · rename_i v r er
              split at q
              · rename_i hv
                cases q
                have o12 : CallR X v r ∧ Keeps X v := by
                  split at er
                  · rename_i D eD
                    cases er
                    refine ⟨b_isO c ?_, keeps_blt⟩
                    unfold isOwn at eD
                    split at eD
                    · split at eD
                      · exact List.mem_of_find?_eq_some eD
                      · cases eD
                    · cases eD
                  · exact bltR_ok c er
                obtain ⟨o1, o2⟩ := o12
                exact pe_blt o1 o2 hg (c.gok.blt x hb) hv hx.1 a3 a2 a1
              · cases q
            · cases q
          · cases q
    · cases q
  · cases q
theorem tListV_ok (c : COk g lev X N sc W) (h : SE X W f) {x : Str} {p pos : Pos} {es : List Expr} {kws : List Keyword} {t : WX → TE} (q : tListV g f sc x es kws = some t) : PE X (.Call (.Name x p) es kws pos) (t W) := by
  unfold tListV at q
  split at q
  · split at q
    · rename_i hc
      obtain ⟨rfl, rfl, hg, hb, ho, hl⟩ := hc
      have gl : Gl X "list" := by unfold Gl Env.kindOf; rw [c.hsc]; exact hg
      split at q
      · rename_i te e1
        split at q
        · rename_i em
          subst em
          cases q
          exact pe_listVals c.calm (h _ _ e1) gl (c.gok.blt _ hb) PyProof.Rows.Boot.«list» (base_of ho) hl
        · split at q
          · rename_i em
            subst em
            cases q
            exact LiI.pe_listItems c.calm (h _ _ e1) gl (c.gok.blt _ hb) PyProof.Rows.Boot.«list» (base_of ho) hl
          · cases q
      · cases q
    · cases q
  · split at q
    · rename_i hc
      obtain ⟨rfl, rfl, rfl, hg, hb, hg2, hb2, hs⟩ := hc
      split at q
      · rename_i te e1
        cases q
        rw [← c.hK]
        exact pe_listEnum c.room.hd (h _ _ e1) hs (by unfold Gl Env.kindOf; rw [c.hsc]; exact hg) (c.gok.blt _ hb) (by unfold Gl Env.kindOf; rw [c.hsc]; exact hg2) (c.gok.blt _ hb2)
      · cases q
    · cases q
  · cases q
theorem tKeyed_ok (c : COk g lev X N sc W) (h : SE X W f) {x : Str} {p pos : Pos} {es : List Expr} {kws : List Keyword} {t : WX → TE} (q : tKeyed g f sc x es kws = some t) : PE X (.Call (.Name x p) es kws pos) (t W) := by
  unfold tKeyed at q
  split at q
  · split at q
    · rename_i hc
      obtain ⟨rfl, hx, hg, hb, hy, hp, hs⟩ := hc
      split at q
      · rename_i te i e1 ei
        cases q
        have hi := List.mem_of_find?_eq_some ei
        have hp2 := List.find?_some ei
        simp only [Bool.and_eq_true, decide_eq_true_eq] at hp2
        obtain ⟨⟨p1, p2⟩, p3⟩ := hp2
        subst p1
        exact pe_keyed c (decide (x = "max")) hi p2 p3 (by rcases hx with rfl | rfl <;> rfl) (by unfold Gl Env.kindOf; rw [c.hsc]; exact hg) (c.gok.blt x hb) (by unfold Gl Env.kindOf; rw [c.hsc]; exact hy) hp hs (h _ _ e1)
      · cases q
    · cases q
  · cases q
theorem cAttr_ok (c : COk g lev X N sc W) {o : Expr} {a : Str} {pos : Pos} {cs : List Addr} {to : TE} (hb : baseOk o = true) (hc : g.ats.lookup a = some cs) (ho : PE X o to) : PE X (.Attribute o a pos) (cAttr cs a to) := by
  refine PE_imp (pe_fld (PE_up ho) (base_of hb)) fun σ H Q h => ⟨_, h, fun x H1 q => ?_⟩
  try dsimp only at q
  split at q
  · rename_i p C fs e
    obtain ⟨hC, q⟩ := q
    obtain ⟨dx, rfl, ea⟩ := insOf_ok e
    obtain ⟨k1, k2⟩ := c.gok.ats _ (lookup_mem hc) C hC
    split at q
    · rename_i v ev
      rw [c.hK]
      exact ⟨_, _, _, _, v, rfl, ea, k1, k2, ev, q⟩
    · exact q.elim
  · exact q.elim
theorem tDict_ok (c : COk g lev X N sc W) (h : SE X W f) {ks : List (Option Expr)} {vs : List Expr} {pos : Pos} {t : WX → TE} (q : tDict f ks vs = some t) : PE X (.Dict ks vs pos) (t W) := by
  unfold tDict at q
  split at q
  · cases q; exact pe_dnewK
  · rename_i hne
    split at q
    · rename_i h15
      split at q
      · rename_i trs e
        cases q
        obtain ⟨p1, p2, p3⟩ := tPairs_ok h (pos := pos) e
        refine pe_disp p1 p2 p3 (fun z => ?_) h15
        subst z
        have : vs = [] := List.length_eq_zero_iff.mp p3.symm
        exact hne rfl this
      · cases q
    · cases q
end
theorem blk_fn {X : Cx} {scope : Scope} {s : Shared} {H : Hp} {cenv : Env} {fp : List Addr} : ∀ x, okBlk scope x = true → (X.blk s H scope cenv fp).fn x = true := fun x h => h

theorem plain_true {e : Expr} {env : Env} {whole : Sem Value} (h : plainTest e = true) : isTrue e env whole = (do let v ← whole; standAt e.pos; holding [v] (truthy v)) := by
  cases e <;> first | rfl | exact absurd h Bool.false_ne_true
theorem pe_orLock {X : Cx} {e : Expr} {t : TE} (h : PE X e t) : PE X e (fun σ H Q => t σ H Q ∨ tLockE t σ H Q) :=
  ⟨fun pins s σ H Q I q => q.elim (fun q => h.run pins s σ H Q I q) fun q => (pe_lock h).run pins s σ H Q I q⟩
/-- THE READING OF EXPRESSIONS IS RIGHT -/
theorem tET_ok (g : G) : ∀ (n : Nat), (∀ N sc e t, tE g n N sc e = some t → ∀ {lev X W}, COk g lev X N sc W → PE X e (t W)) ∧ (∀ N sc e t, tT g n N sc e = some t → ∀ {lev X W}, COk g lev X N sc W → PT X e (t W))
  | 0 => ⟨fun N sc e t q => by simp [tE] at q, fun N sc e t q => by simp [tT] at q⟩
  | n + 1 => by
    obtain ⟨ihE, ihT⟩ := tET_ok g n
    have seE : ∀ {N sc lev X W}, COk g lev X N sc W → SE X W (tE g n N sc) := fun c e t q => ihE _ _ e t q c
    have seT : ∀ {N sc lev X W}, COk g lev X N sc W → ST X W (tT g n N sc) := fun c e t q => ihT _ _ e t q c
    have hE : ∀ N sc e t, tE g (n + 1) N sc e = some t → ∀ {lev X W}, COk g lev X N sc W → PE X e (t W) := by
      intro N sc e t q lev X W c
      unfold tE at q
      split at q
      · split at q
        · cases q; exact pe_int
        · cases q; exact pe_bl
        · cases q; exact pe_non
        · cases q; exact pe_str
        · cases q
      · obtain ⟨u, hu, rfl⟩ := Option.map_eq_some_iff.mp q
        exact tName_ok hu c.b
      · split at q
        · rename_i e1 e2 e3
          cases q
          exact pe_op (opR_ok c e1) (ihE _ _ _ _ e2 c) (ihE _ _ _ _ e3 c)
        · cases q
      · split at q
        · rename_i hs
          split at q
          · rename_i e1 e2 e3
            cases q
            exact pe_cmpR (cmpR_ok c e1) (ihE _ _ _ _ e2 c) (ihE _ _ _ _ e3 c) (notSet_b hs)
          · cases q
        · cases q
      · split at q
        · rename_i hs
          split at q
          · rename_i e1 e2 e3 e4 e5
            cases q
            exact pe_chain' (cmpR_ok c e1) (cmpR_ok c e2) (ihE _ _ _ _ e3 c) (ihE _ _ _ _ e4 c) (ihE _ _ _ _ e5 c) (notSet_l hs)
          · cases q
        · cases q
      · rw [← c.hK] at q
        exact tBool_ok (seE c) true q
      · rw [← c.hK] at q
        exact tBool_ok (seE c) false q
      · obtain ⟨u, hu, rfl⟩ := Option.map_eq_some_iff.mp q
        rw [← c.hK]
        exact pe_not' (ihE _ _ _ _ hu c)
      · obtain ⟨u, hu, rfl⟩ := Option.map_eq_some_iff.mp q
        exact pe_neg' (ihE _ _ _ _ hu c)
      · split at q
        · rename_i e1 e2 e3
          cases q
          exact pe_ifExp (ihT _ _ _ _ e1 c) (ihE _ _ _ _ e2 c) (ihE _ _ _ _ e3 c)
        · cases q
      · split at q
        · rename_i e; cases q; exact tListV_ok c (seE c) e
        · split at q
          · rename_i e; cases q; exact tKeyed_ok c (seE c) e
          · exact tCallName_ok c (seE c) q
      · split at q
        · rename_i hb
          split at q
          · rename_i e1 e2 e3 e4
            cases q
            obtain ⟨a1, a2, a3⟩ := tArgs_ok (seE c) e3
            obtain ⟨b1, b2⟩ := tKws_ok (seE c) e4
            refine pe_methG c hb.1 a2 e1 hb.2.2 hb.2.1 (fun i hi => ?_) (fun b hbm => ?_) a3 b2 (ihE _ _ _ _ e2 c) a1 b1
            · obtain ⟨z1, z2⟩ := List.mem_filter.mp hi
              simp only [Bool.and_eq_true, decide_eq_true_eq] at z2
              exact ⟨z1, z2.1.1, z2.1.2, z2.2⟩
            · obtain ⟨z1, z2⟩ := List.mem_filter.mp hbm
              rw [← c.hK] at z1
              exact ⟨bms_ok c.hu1 b z1, of_decide_eq_true z2⟩
          · cases q
        · cases q
      · obtain ⟨u, hu, rfl⟩ := Option.map_eq_some_iff.mp q
        exact pe_lst (tArgs_ok (seE c) hu).1
      · obtain ⟨u, hu, rfl⟩ := Option.map_eq_some_iff.mp q
        exact pe_tup (tArgs_ok (seE c) hu).1
      · exact tDict_ok c (seE c) q
      · split at q
        · rename_i e1 e2 e3
          cases q
          rw [← c.hK]
          exact pe_slice r_sl (ihE _ _ _ _ e1 c) (tPartO_ok (seE c) e2) (tPartO_ok (seE c) e3)
        · cases q
      · split at q
        · rename_i hm
          obtain ⟨u, hu, rfl⟩ := Option.map_eq_some_iff.mp q
          obtain ⟨k, p1, p2, rfl⟩ := isM1_ok hm
          rw [← c.hK]
          exact pe_revS (ihE _ _ _ _ hu c)
        · cases q
      · split at q
        · rename_i hs
          split at q
          · rename_i e1 e2
            cases q
            rw [← c.hK]
            exact pe_ix (r_ix c.hu1) (ihE _ _ _ _ e1 c) (ihE _ _ _ _ e2 c) (notSlice_ix hs)
          · cases q
        · cases q
      · split at q
        · rename_i hb
          split at q
          · rename_i e1 e2
            cases q
            exact cAttr_ok c hb e1 (ihE _ _ _ _ e2 c)
          · cases q
        · cases q
      · split at q
        · rename_i hb
          split at q
          · rename_i wi gt tt te e1 e2 e3 e4
            cases q
            obtain ⟨i1, i2⟩ := tI_ok c (seE c) e1
            have ok : BlkOk X.N X.env.scope _ _ := blkOk_by (by rw [c.hN, c.hsc]; exact hb)
            exact pe_orLock (PE_imp (pe_lc c.calm c.nd (PI_up i1) ok (fun s H C cl fp => tG_ok (cok_blk c) (seE (cok_blk c)) blk_fn 12 _ _ e2)
                (fun s H C cl fp => tIfs_ok (seT (cok_blk c)) e3) (fun s H C cl fp => ihE _ _ _ _ e4 (cok_blk c)) (fun x => notSet_f i2)) fun σ H Q h => ⟨_, h, fun J H' q D hD => lpc_W (q D hD)⟩)
          · cases q
        · cases q
      · split at q
        · rename_i hb
          split at q
          · rename_i wi gt tt tk tv e1 e2 e3 e4 e5
            cases q
            obtain ⟨i1, i2⟩ := tI_ok c (seE c) e1
            have ok : BlkOk X.N X.env.scope _ _ := blkOk_by (by rw [c.hN, c.hsc]; exact hb)
            exact pe_orLock (PE_imp (pe_dc c.calm c.nd (PI_up i1) ok (fun s H C cl fp => tG_ok (cok_blk c) (seE (cok_blk c)) blk_fn 12 _ _ e2)
                (fun s H C cl fp => tIfs_ok (seT (cok_blk c)) e3) (fun s H C cl fp => ihE _ _ _ _ e4 (cok_blk c)) (fun s H C cl fp => ihE _ _ _ _ e5 (cok_blk c)) (fun x => notSet_f i2)) fun σ H Q h => ⟨_, h, fun J H' q D hD => lpd_W (q D hD)⟩)
          · cases q
        · cases q
      · split at q
        · rename_i hv
          obtain ⟨u, hu, rfl⟩ := Option.map_eq_some_iff.mp q
          rw [hv]
          exact pe_fmt' (ihE _ _ _ _ hu c)
        · cases q
      · obtain ⟨u, hu, rfl⟩ := Option.map_eq_some_iff.mp q
        exact pe_joined' (tArts_ok (seE c) hu)
      · exact pe_joined1 (ihE _ _ _ _ q c)
      · cases q
    refine ⟨hE, fun N sc e t q lev X W c => ?_⟩
    unfold tT at q
    split at q
    · split at q
      · rename_i hs
        split at q
        · rename_i e1 e2 e3
          cases q
          exact pt_cmp' (cmpR_ok c e1) (ihE _ _ _ _ e2 c) (ihE _ _ _ _ e3 c) (notSet_b hs)
        · cases q
      · cases q
    · split at q
      · rename_i hs
        split at q
        · rename_i e1 e2 e3 e4 e5
          cases q
          exact pt_chain' (cmpR_ok c e1) (cmpR_ok c e2) (ihE _ _ _ _ e3 c) (ihE _ _ _ _ e4 c) (ihE _ _ _ _ e5 c) (notSet_l hs)
        · cases q
      · cases q
    · exact (tBoolT_ok (seT c) true q).pt
    · exact (tBoolT_ok (seT c) false q).pt
    · obtain ⟨u, hu, rfl⟩ := Option.map_eq_some_iff.mp q
      exact pt_not (ihT _ _ _ _ hu c)
    · split at q
      · rename_i hp
        obtain ⟨u, hu, rfl⟩ := Option.map_eq_some_iff.mp q
        rw [← c.hK]
        exact pt_tru' (ihE _ _ _ _ hu c) fun whole => plain_true hp
      · cases q
end WR

set_option Elab.async false
set_option linter.all false
set_option maxRecDepth 100000
set_option maxHeartbeats 4000000
namespace WR
open PySem PySem.Spec PyProof.Rows L2

/-! ## 19. statements -/
def notComp : Expr → Bool
  | .ListComp _ _ _ _ | .SetComp _ _ _ _ | .DictComp _ _ _ _ _ => false
  | _ => true
theorem notComp_sw {e : Expr} {t : Option Expr} {l : Nat} {env : Env} (h : notComp e = true) : swapsWith e t l env = pure false := by
  cases e <;> first | rfl | exact absurd h Bool.false_ne_true
def oIAdd (K : PySem.W.Frag) : R2 := fun x y H Q => match x, y with
  | .int i, .int j => Q (.int (i + j)) H
  | .str a, .str b => a.length + b.length ≤ sizeLine ∧ Q (.str (a ++ b)) H
  | .ref l, .ref b => (match H l, H b with
    | some (.lst xs), some (.lst zs) => xs.length + zs.length ≤ sizeLine ∧ Q (.ref l) (upd H l (.lst (xs ++ zs)))
    | _, _ => False)
  | _, _ => False
def iopR (K : PySem.W.Frag) : Operator → Option R2
  | .Add => some (oIAdd K)
  | .Sub => some oSub
  | _ => none
section
variable {X : Cx}
theorem r_iadd : OpR X (inplaceOp .Add) (oIAdd X.K) := OpR_imp (iop_add.or (iop_add_str.or iop_ext)) fun x y H Q h => by
  unfold oIAdd at h
  split at h
  · exact .inl ⟨_, _, rfl, rfl, h⟩
  · exact .inr (.inl ⟨_, _, rfl, rfl, h.1, h.2⟩)
  · split at h
    · rename_i e f; exact .inr (.inr ⟨_, _, _, _, rfl, rfl, e, f, h.1, h.2⟩)
    · exact h.elim
  · exact h.elim
theorem r_isub : OpR X (inplaceOp .Sub) oSub := OpR_imp iop_sub fun x y H Q h => by
  unfold oSub at h
  split at h
  · exact ⟨_, _, rfl, rfl, h⟩
  · exact h.elim
end
/-- self.f = e -/
def cFldS (cands : List Addr) (f : Str) (ta tv : TE) : TS := fun D σ H => tv σ H fun y H1 => ta σ H1 fun x H2 => match x with
  | .ref a => (match H2 a with
    | some (.ins C dx fs) => C ∈ cands ∧ fs.length < 1000 ∧ D.nx σ (upd H2 a (.ins C dx (putF f y fs)))
    | _ => False)
  | _ => False
/-- self.f += e, whole numbers -/
def cFldAug (cands : List Addr) (f : Str) (sub : Bool) (ta tv : TE) : TS := fun D σ H => ta σ H fun x H1 => match x with
  | .ref a => (match H1 a with
    | some (.ins C dx fs) => C ∈ cands ∧ (match fs.lookup f with
      | some (.int i) => tv σ H1 fun y H2 => (match y with
        | .int j => (match H2 a with
          | some (.ins C' dx' fs') => C' = C ∧ fs'.length < 1000 ∧ D.nx σ (upd H2 a (.ins C dx' (putF f (.int (if sub then i - j else i + j)) fs')))
          | _ => False)
        | _ => False)
      | _ => False)
    | _ => False)
  | _ => False
def cPar (i j : Nat) (ta : TA) : TS := fun D σ H => ta σ H fun vs H1 => match vs with
  | [v, w] => D.nx ((σ.set i (some v)).set j (some w)) H1
  | _ => False
def cAug (i : Nat) (te : TE) (r : R2) : TS := fun D σ H => match σ[i]? with
  | some (some x) => te σ H fun y H1 => r x y H1 fun z H2 => D.nx (σ.set i (some z)) H2
  | _ => False
abbrev bad : WX → TS := fun _ => tNever
/-- what the stores of a, b = x, y are: plain local names on one line are stored from the right -/
def swR (sc : Scope) (ts vs : List Expr) : Option (Option (List Str)) :=
  if (!(ts.length == 2 || ts.length == 3) || vs.length != ts.length) = true then some none else
  if (vs.any fun | .Starred .. => true | _ => false) = true then some none else
  let names := ts.filterMap fun
    | .Name id pos => if (sc.names.lookup id == some .local && pos.line == (ts.head?.map (·.pos.line)).getD 0) = true then some id else none
    | _ => none
  if (names.length != ts.length || names.eraseDups.length != names.length) = true then some none else
  if vs.all (foldedForSure 8) = true then some none else
  if vs.all (constantsAlone 8) = true then none else some (some names)
theorem swR_ok {sc : Scope} {ts vs : List Expr} {r : Option (List Str)} {env : Env} {k k2 : Nat} {p p2 : Pos} (hb : env.blockKind = .function) (hs : env.scope = sc) (h : swR sc ts vs = some r) :
    swappedStores [.Tuple ts k p] (.Tuple vs k2 p2) env = pure r := by
  subst hs
  have hb' : (env.blockKind != ScopeKind.function) = false := by rw [hb]; rfl
  unfold swR at h
  unfold swappedStores
  simp only [hb', Bool.or_false]
  split at h
  · rename_i c; refine (if_pos c).trans ?_; cases h; rfl
  · rename_i c; refine (if_neg c).trans ?_
    split at h
    · rename_i c; refine (if_pos c).trans ?_; cases h; rfl
    · rename_i c; refine (if_neg c).trans ?_
      dsimp only at h
      split at h
      · rename_i c; refine (if_pos c).trans ?_; cases h; rfl
      · rename_i c; refine (if_neg c).trans ?_
        split at h
        · rename_i c; refine (if_pos c).trans ?_; cases h; rfl
        · rename_i c; refine (if_neg c).trans ?_
          split at h
          · cases h
          · rename_i c; refine (if_neg c).trans ?_; cases h; rfl
theorem sw_cond {elt : Expr} {gs : List Comprehension} {scope : Scope} {pos py : Pos} {y : Str} {l : Nat} {env : Env} :
    swapsWith (.ListComp elt gs scope pos) (some (.Name y py)) l env = pure (env.blockKind == .function && env.kindOf y == some .local && py.line == pos.line && !(scope.names.any fun (n, k) => n == y && (k == .local || k == .cell))) := rfl
end WR

set_option Elab.async false
set_option linter.all false
set_option maxRecDepth 100000
set_option maxHeartbeats 4000000
namespace WR
open PySem PySem.Spec PyProof.Rows L2

/-! ## try: body, and clauses except X [as n]: suite; a clause that is never reached may be anything -/
inductive ClR where
  | one (c : Value) (nm : Option Nat) (ts : Addr → Value → Option Addr → TS)
  | dead
def endsN (nm : Option Nat) (D : Ends) : Ends := match nm with
  | some i => { nx := fun σ H => D.nx (σ.set i none) H, rt := D.rt, bk := fun σ H => D.bk (σ.set i none) H, ct := fun σ H => D.ct (σ.set i none) H }
  | none => D
def slotN (nm : Option Nat) (a : Addr) (σ : St) : St := match nm with
  | some i => σ.set i (some (.ref a))
  | none => σ
def wCl (K : PySem.W.Frag) (Wout : WX) (D : Ends) : List ClR → WX
  | [] => Wout
  | .one c nm ts :: r => fun cls d σ H => ∃ b, PySem.W.exmOne K cls c = some b ∧ (b = true → ∀ a, H a = none → ts a cls d (endsN nm D) (slotN nm a σ) H) ∧ (b = false → wCl K Wout D r cls d σ H)
  | .dead :: _ => fun _ _ _ _ => False
inductive ClOk (X : Cx) : List ExceptHandler → List ClR → Prop
  | nil : ClOk X [] []
  | one {x : Str} {c : Value} {ts : Addr → Value → Option Addr → TS} {b₀ : Stmt} {suite : List Stmt} {np pos' : Pos} {hds : List ExceptHandler} {l : List ClR} (hc : Names X x c)
      (hsu : ∀ (a : Addr) (oe : Obj) (cls : Value) (d : Option Addr) (pn : List (Addr × Obj)), Zc cls d oe → (∃ vs, oe.data = .fields vs) → PSs (X.suite a ((a, oe) :: pn)) (b₀ :: suite) (ts a cls d)) (r : ClOk X hds l) :
      ClOk X (.ExceptHandler (some (.Name x np)) none (b₀ :: suite) pos' :: hds) (.one c none ts :: l)
  | as_ {x n : Str} {c : Value} {i : Nat} {ts : Addr → Value → Option Addr → TS} {b₀ : Stmt} {suite : List Stmt} {np pos' : Pos} {hds : List ExceptHandler} {l : List ClR} (hc : Names X x c) (hi : X.N[i]? = some n) (hln : X.env.kindOf n = some .local)
      (hsu : ∀ (a : Addr) (oe : Obj) (cls : Value) (d : Option Addr) (pn : List (Addr × Obj)), Zc cls d oe → (∃ vs, oe.data = .fields vs) → PSs (X.suite a ((a, oe) :: pn)) (b₀ :: suite) (ts a cls d)) (r : ClOk X hds l) :
      ClOk X (.ExceptHandler (some (.Name x np)) (some n) (b₀ :: suite) pos' :: hds) (.one c (some i) ts :: l)
  | dead {hds : List ExceptHandler} {l : List ClR} : ClOk X hds (.dead :: l)
section
variable {X : Cx} {body : List Stmt} {h₀ : ExceptHandler} {hds : List ExceptHandler} {l : List ClR} {pos : Pos} {tb : WX → TS} {Wout : WX}
theorem ps_tryW (hs : X.stack = X.env :: X.outer) (hf : X.env.frame = some X.env.locals) (hN : X.N.Nodup) (tk : Takes X Wout)
    (hb : ∀ (W : WX) (pn : List (Addr × Obj)) (xe : Value → Shared → Prop), Takes (X.tr pn xe) W → PassesOwn (model X.prog X.w) X.A X.env xe → PSs (X.tr pn xe) body (tb W))
    (hh : ClOk X (h₀ :: hds) l) : PS X (.Try body (h₀ :: hds) [] [] pos) (fun D σ H => tb (wCl X.K Wout D l) D σ H) := by
  constructor
  intro pins s σ H D I want
  have ok := I.ok
  have frames : X.A.frames = some (X.env :: X.outer) := ok.frames.trans (congrArg some hs)
  apply wpAny_Try_except
  let look : Value → Shared → Prop := fun e s₁ => wpAny (model X.prog X.w) X.A (noteFrame e X.env) (fun _ s₂ => wpAny (model X.prog X.w) X.A (setFlight e none) (fun _ s₃ =>
    wpAny (model X.prog X.w) X.A (handleBy e X.env (h₀ :: hds)) (SP X pins D) X.xe s₃) X.xe s₂) X.xe s₁
  have caught : Takes (X.tr (X.pn ++ pins) look) (wCl X.K Wout D l) := by
    rintro u s' ⟨a, B, sI, pins', σ', H', cls, d, rfl, J', nb, up, sky, na, os, ag, wish⟩
    have J : Inv X pins σ' H' sI := J'.ofTry ok
    have sky2 : Sky B (X.env :: X.outer) a (Zc cls d) X.env.locals s'.heap := hs ▸ sky
    show wpAny (model X.prog X.w) X.A (noteFrame (.ref a) X.env) _ _ _
    apply Sky.land Zc.steady frames hf sky2
    intro h3 fl3 up3
    have J3 : Inv X pins σ' H' { s' with heap := h3 } := J.landed nb fl3.1 (up.trans up3) os ag
    obtain ⟨oe3, vs3, he3, hz3, hd3⟩ := fl3.there
    have nfr : a ∉ frs (X.env :: X.outer) := fun m => by
      obtain ⟨_, o', e', nf⟩ := fl3.2.2.1.mem m
      rw [he3] at e'
      cases e'
      exact nf _ hd3
    have nL : a ≠ X.env.locals := by
      rintro rfl
      exact nfr (List.mem_filterMap.mpr ⟨X.env, List.mem_cons_self, hf⟩)
    have nF : a ∉ X.fs := fun m => by
      obtain ⟨e, he, q⟩ := List.mem_filterMap.mp m
      exact nfr (List.mem_filterMap.mpr ⟨e, List.mem_cons_of_mem _ he, q⟩)
    have S3 := J3.suite he3 hd3 na nL nF
    have ty : PySem.W.Looks (model X.prog X.w) h3 (typeOf (.ref a)) cls := fun A Q E s k q => wpAny_typeOf_ref (k _ _ he3) (by rw [hz3.1]; exact q)
    have test : ∀ {x : Str} {c : Value} {np : Pos} {Q : Value → Shared → Prop} {E : Value → Shared → Prop}, Names X x c → Q c { s' with heap := h3 } → wpAny (model X.prog X.w) (X.A.mark (some (.ref a))) (eval (.Name x np) X.env) Q E { s' with heap := h3 } := by
      rintro x c np Q E ⟨hg, nd, hm | ⟨hm, hv, hn⟩⟩ q
      · exact ld_glob (X := X.suite a ((a, oe3) :: (X.pn ++ pins))) S3 hg hm q nd
      · exact ld_blt (X := X.suite a ((a, oe3) :: (X.pn ++ pins))) S3 hg hm hv q hn nd
    have go : ∀ {hds' : List ExceptHandler} {l' : List ClR}, ClOk X hds' l' → wCl X.K Wout D l' cls d σ' H' → wpAny (model X.prog X.w) X.A (handleBy (.ref a) X.env hds') (SP X pins D) X.xe { s' with heap := h3 } := by
      intro hds' l' hk
      induction hk with
      | nil =>
        intro out
        apply wpAny_handleBy_nil
        obtain ⟨k1, k2, k3, oe, vs, T, oT, ts', he, hz, hd, h1, hr⟩ := id fl3
        unfold PySem.passOn
        apply wpAny_bind
        apply wpAny_field he hd h1
        rw [if_neg (show ¬ ((Value.ref T == Value.none) = true) from by simp)]
        have on : wpAny (model X.prog X.w) X.A (setFlight (.ref a) X.env.frame) (fun _ s4 => wpAny (model X.prog X.w) X.A (throw (.ref a) : Sem Flow) (SP X pins D) X.xe s4) X.xe { s' with heap := h3 } := by
          rw [hf]
          apply HandSPX.setFlight_upZ fl3
          intro h4 held up4
          apply wpAny_throw
          apply tk
          exact ⟨a, B, sI, pins, σ', H', cls, d, rfl, J, nb, (up.trans up3).trans up4, .inr (.inr (by rw [hs]; exact held)), na, os, ag, out⟩
        first
          | exact wpAny_bind (wpAny_pure (wpAny_bind on))
          | exact wpAny_bind on
      | @one x c ts b₀ suite np pos' hds2 l2 hc hsu r ih =>
        rintro ⟨b, e, yes, no⟩
        have m := PySem.W.exm_one (M := model X.prog X.w) J3.kIn ty e
        apply wpAny_handleBy_cons (codeAny_handlers_test (test hc (m.here _))) (by intro q; cases q)
        cases b with
        | false => exact ih (no rfl)
        | true =>
          apply codeAny_handlers_suite
          apply HandSPX.lands_againZ fl3
          intro h4 fl4 up4
          have J4 : Inv X pins σ' H' { s' with heap := h4 } := J.landed nb fl4.1 ((up.trans up3).trans up4) os ag
          obtain ⟨oe4, vs4, he4, hz4, hd4⟩ := fl4.there
          have S4 := J4.suite he4 hd4 na nL nF
          refine wpAny_mono ((hsu a oe4 cls d (X.pn ++ pins) hz4 ⟨_, hd4⟩).run [] _ _ H' _ S4 (yes rfl a na)) ?_ (fun _ _ z => False.elim z)
          intro f s6 got
          match f, got with
          | .next, ⟨σ6, H6, S6, q6⟩ => exact ⟨_, _, S6.unsuite ok, q6⟩
          | .brk, ⟨σ6, H6, S6, q6⟩ => exact ⟨_, _, S6.unsuite ok, q6⟩
          | .cont, ⟨σ6, H6, S6, q6⟩ => exact ⟨_, _, S6.unsuite ok, q6⟩
          | .ret u, ⟨v6, σ6, H6, S6, r6, q6⟩ => exact ⟨_, _, _, S6.unsuite ok, r6, q6⟩
      | @as_ x n c i ts b₀ suite np pos' hds2 l2 hc hi hln hsu r ih =>
        rintro ⟨b, e, yes, no⟩
        have m := PySem.W.exm_one (M := model X.prog X.w) J3.kIn ty e
        apply wpAny_handleBy_cons (codeAny_handlers_test (test hc (m.here _))) (by intro q; cases q)
        cases b with
        | false => exact ih (no rfl)
        | true =>
          apply codeAny_handlers_suite_as
          apply HandSPX.lands_againZ fl3
          intro h4 fl4 up4
          have J4 : Inv X pins σ' H' { s' with heap := h4 } := J.landed nb fl4.1 ((up.trans up3).trans up4) os ag
          obtain ⟨oe4, vs4, he4, hz4, hd4⟩ := fl4.there
          have S4 := J4.suite he4 hd4 na nL nF
          refine store_ok (X := X.suite a ((a, oe4) :: (X.pn ++ pins))) (v := .ref a) S4 hN hi (.inl hln) rfl (fun s5 S5 => ?_) (.inr hln)
          refine wpAny_mono ((hsu a oe4 cls d (X.pn ++ pins) hz4 ⟨_, hd4⟩).run [] s5 _ H' _ S5 (yes rfl a na)) ?_ (fun _ _ z => False.elim z)
          intro f s6 got
          have off : ∀ {σ6 : St} {H6 : Hp} {Q : Shared → Prop}, Inv (X.suite a ((a, oe4) :: (X.pn ++ pins))) [] σ6 H6 s6 → (∀ s7, Inv X pins (σ6.set i none) H6 s7 → Q s7) →
              wpAny (model X.prog X.w) X.A (do bindName X.env n .none; unbindBehindTheSuite X.env n pos') (fun _ s7 => Q s7) X.xe s6 := fun S6 q => gone_ok (S6.unsuite ok) hN hi hln q
          match f, got with
          | .next, ⟨σ6, H6, S6, q6⟩ => exact off S6 fun s7 J7 => ⟨_, _, J7, q6⟩
          | .brk, ⟨σ6, H6, S6, q6⟩ => exact off S6 fun s7 J7 => ⟨_, _, J7, q6⟩
          | .cont, ⟨σ6, H6, S6, q6⟩ => exact off S6 fun s7 J7 => ⟨_, _, J7, q6⟩
          | .ret u, ⟨v6, σ6, H6, S6, r6, q6⟩ => exact off S6 fun s7 J7 => ⟨_, _, _, J7, r6, q6⟩
      | dead =>
        intro z
        exact False.elim z
    exact go hh wish
  refine wpAny_mono ((hb (wCl X.K Wout D l) (X.pn ++ pins) look caught PassesOwn.looking).run [] s σ H D (I.toTry _) want) ?_ (fun _ _ z => z)
  intro f s1 got
  match f, got with
  | .next, ⟨σ', H', J, q⟩ => exact wpAny_execs_nil ⟨σ', H', J.ofTry ok, q⟩
  | .brk, ⟨σ', H', J, q⟩ => exact ⟨σ', H', J.ofTry ok, q⟩
  | .cont, ⟨σ', H', J, q⟩ => exact ⟨σ', H', J.ofTry ok, q⟩
  | .ret u, ⟨v, σ', H', J, r, q⟩ => exact ⟨v, σ', H', J.ofTry ok, r, q⟩
end
end WR

set_option Elab.async false
set_option linter.all false
set_option maxRecDepth 100000
set_option maxHeartbeats 4000000
namespace WR
open PySem PySem.Spec PyProof.Rows L2

/-! ## what an except suite may say -/
/-- e.f, e the caught exception (at a, of the class cls, its dict at d), slot i -/
def cXf (g : G) (i : Nat) (a : Addr) (cls : Value) (d : Option Addr) (f : Str) : TE := fun σ H Q => σ[i]? = some (some (.ref a)) ∧ ∃ x ∈ g.xcs, x.f = f ∧ cls = .ref x.C ∧ ∃ dd fs v, d = some dd ∧ H dd = some (.xd fs) ∧ fs.lookup f = some v ∧ Q v H
/-- the exception that a suite holds: its name, where it stands, its class, its dict -/
structure XeI where
  en : Str
  a : Addr
  cls : Value
  d : Option Addr
def isXe (xe : Option XeI) (x : Str) : Bool := match xe with
  | some i => decide (i.en = x)
  | none => false
/-- builtins that ask nothing of the handled exception -/
def hBlt (g : G) : List (Str × (Value × RC)) := [("repr", .builtin "repr", bRepr g.K), ("len", .builtin "len", bLen g.K), ("isinstance", .builtin "isinstance", bIsi g.K), ("abs", .builtin "abs", bAbs), ("ord", .builtin "ord", bOrd), ("int", .type "int", bInt), ("tuple", .type "tuple", bTuple g.K)]
/-- == and != of data, dicts too -/
def oEqH (K : PySem.W.Frag) : R2 := fun x y H Q => oEq K x y H Q ∨ rEqDD K x y H Q
def oNeH (K : PySem.W.Frag) : R2 := fun x y H Q => oNe K x y H Q ∨ rNeDD K x y H Q
def hCmp (g : G) : CmpOp → Option R2
  | .Lt => some oLt
  | .LtE => some oLe
  | .Gt => some oGt
  | .GtE => some oGe
  | .Eq => some (oEqH g.K)
  | .NotEq => some (oNeH g.K)
  | .In => some (oIn g.K false)
  | .NotIn => some (oIn g.K true)
  | .Is => some oIs
  | .IsNot => some oIsNot
def hBin (g : G) : Operator → Option R2
  | .Add => some (oAdd g.K)
  | .Sub => some oSub
  | .Mult => some oMul
  | .FloorDiv => some oFdiv
  | .Mod => some oMod
  | _ => none
def hCallName (g : G) (f : Expr → OE) (sc : Scope) (x : Str) (es : List Expr) (kws : List Keyword) : OE :=
  if plainName x = true ∧ sc.names.lookup x = some .globalImplicit then
    match kwNames kws, tArgs f es, tKws f kws with
    | some ks, some t, some tk => match g.hfs.find? (fun i => decide (i.name = x) && decide (i.n = es.length) && decide (i.ks = ks)) with
      | some i => some fun W => cCall i.sp es.length ks.length i.arr (t W) (tk W) wNone
      | none => if x ∈ g.blt ∧ kws = [] ∧ es ≠ [] then match (hBlt g).lookup x with
          | some (v, r) => if bootBuiltins x = some v then some fun W => tCB r (t W) else none
          | none => none
        else none
    | _, _, _ => none
  else none
/-- isinstance(e, C) -/
def hIsX (g : G) (f : Expr → OE) (N : List Str) (sc : Scope) (xe : Option XeI) (x : Str) (es : List Expr) (kws : List Keyword) : OE := match xe, es with
  | some i, [.Name z _, ec] => if x = "isinstance" ∧ z = i.en ∧ kws = [] ∧ plainName z = true ∧ sc.names.lookup z = some .local ∧ sc.names.lookup x = some .globalImplicit ∧ x ∈ g.blt ∧ notStar ec = true then (match ix? N z, f ec with
    | some k, some t => some fun W => tCB (rIsX g i.a i.cls i.d) (tCons (cVar k) (tCons (t W) tNil))
    | _, _ => none) else none
  | _, _ => none
/-- a built-in's method called where an exception may be handled -/
theorem pe_methH {X : Cx} {o : Expr} {m : Str} {apos pos : Pos} {es : List Expr} {ta : TE} {t : TA} {bs : List BM} {W : WX} (hb : baseOk o = true) (hstar : es.all notStar = true)
    (hfew : es.length < 29) (hline : (apos.endLine == pos.line) = true) (hbs : ∀ b ∈ bs, BMOk X b ∧ b.name = m)
    (hnil : es = [] → t = tNil) (ho : PE X o ta) (ha : PA X es t) : PE X (.Call (.Attribute o m apos) es [] pos) (cMeth X.K m es.length 0 [] bs ta t tNil W) := by
  refine ⟨fun pins s σ H Q I h => ?_⟩
  refine meth_gen (ks := []) hb hstar rfl (by simpa using hfew) hline (thn (ho.run pins s σ H _ I h) fun ov s1 ⟨x, H1, I1, rx, q1⟩ pl => ?_)
  dsimp only at q1
  split at q1
  · obtain ⟨l, i, hi, hC, q1⟩ := q1
    cases hi
  · split at q1
    · rename_i T eT
      split at q1
      · rename_i b eb
        obtain ⟨hz, q1⟩ := q1
        have hbm : b ∈ bs := List.mem_of_find?_eq_some eb
        have hT : b.T = T := by have := List.find?_some eb; exact beq_iff_eq.mp this
        obtain ⟨ok, hn⟩ := hbs b hbm
        obtain ⟨h1, h2⟩ := tyV_is I1 rx (tyB_ok eT)
        refine getMethod_builtin (T := T) (id := b.id) h1 (hT ▸ ok.pa) (hn ▸ hT ▸ ok.slot) ok.ty h2 ?_
        refine args_of (tk := tNil) (ks := []) (first := [ov]) (R := fun vs zs H2 => zs = [] ∧ b.r x vs H2 Q) keeps_blt hnil hstar rfl ha pk_nil I1 (?_ : t σ H1 fun vs H2 => tNil σ H2 fun zs H3 => zs = [] ∧ b.r x vs H3 Q) fun vs zs us ws s2 H2 I2 r rz q => ?_
        · have e : (fun (vs : List V) (H2 : Hp) => tNil σ H2 fun zs H3 => zs = [] ∧ b.r x vs H3 Q) = fun vs H2 => b.r x vs H2 Q := by
            funext vs H2
            exact propext ⟨fun z => z.2, fun z => ⟨rfl, z⟩⟩
          rw [e]
          exact q1
        · obtain ⟨rfl, q⟩ := q
          exact ok.run pins s2 σ H2 x vs ov us Q I2 rx r q
      · exact q1.elim
    · exact q1.elim
mutual
def hE (g : G) (N : List Str) (sc : Scope) (xe : Option XeI) : Nat → Expr → OE
  | 0, _ => none
  | n + 1, e => match e with
    | .Constant c _ _ => (match c with
      | .int i => some fun _ => tC (.int i)
      | .bool b => some fun _ => tC (.bl b)
      | .none => some fun _ => tC .non
      | .str s => some fun _ => tC (.str s)
      | _ => none)
    | .Name x _ => if isXe xe x = true then none else (tName g N sc x).map fun t _ => t
    | .Attribute (.Name x _) f _ => (match xe with
      | some i => if x = i.en ∧ plainName x = true ∧ sc.names.lookup x = some .local then (ix? N x).map fun k _ => cXf g k i.a i.cls i.d f else none
      | none => none)
    | .Tuple es _ _ => (tArgs (hE g N sc xe n) es).map fun t W => tTup (t W)
    | .List es _ => (tArgs (hE g N sc xe n) es).map fun t W => tLst (t W)
    | .Call (.Name x _) es kws _ => (match hIsX g (hE g N sc xe n) N sc xe x es kws with
      | some t => some t
      | none => hCallName g (hE g N sc xe n) sc x es kws)
    | .Call (.Attribute o m apos) es [] pos => if baseOk o = true ∧ (apos.endLine == pos.line) = true ∧ es.length < 29 then
        (match hE g N sc xe n o, tArgs (hE g N sc xe n) es with
        | some ta, some t => some fun W => cMeth g.K m es.length 0 [] ((bms g.K).filter fun b => decide (b.name = m)) (ta W) (t W) tNil W
        | _, _ => none) else none
    | .BinOp a op b _ => (match hBin g op, hE g N sc xe n a, hE g N sc xe n b with
      | some r, some ta, some tb => some fun W => tOp r (ta W) (tb W)
      | _, _, _ => none)
    | .Compare a [op] [b] _ => if notSet b = true then (match hCmp g op, hE g N sc xe n a, hE g N sc xe n b with
      | some r, some ta, some tb => some fun W => tOp r (ta W) (tb W)
      | _, _, _ => none) else none
    | .BoolOp .And es _ => tBool g.K (hE g N sc xe n) true es
    | .BoolOp .Or es _ => tBool g.K (hE g N sc xe n) false es
    | .UnaryOp .Not a _ => (hE g N sc xe n a).map fun t W => cNot g.K (t W)
    | .IfExp c a b _ => (match hT g N sc xe n c, hE g N sc xe n a, hE g N sc xe n b with
      | some tc, some ta, some tb => some fun W => tIf (tc W) (ta W) (tb W)
      | _, _, _ => none)
    | .Subscript a (.Slice _ _ _ _) _ => none
    | .Subscript a b _ => if notSlice b = true then (match hE g N sc xe n a, hE g N sc xe n b with
      | some ta, some tb => some fun W => tOp (oIx g.K) (ta W) (tb W)
      | _, _ => none) else none
    | _ => none
def hT (g : G) (N : List Str) (sc : Scope) (xe : Option XeI) : Nat → Expr → Option (WX → TT)
  | 0, _ => none
  | n + 1, e => match e with
    | .Compare a [op] [b] _ => if notSet b = true then (match hCmp g op, hE g N sc xe n a, hE g N sc xe n b with
      | some r, some ta, some tb => some fun W => cTest (tOp r (ta W) (tb W))
      | _, _, _ => none) else none
    | .BoolOp .And es _ => tBoolT (hT g N sc xe n) true es
    | .BoolOp .Or es _ => tBoolT (hT g N sc xe n) false es
    | .UnaryOp .Not a _ => (hT g N sc xe n a).map fun t W => tNot (t W)
    | e => if plainTest e = true then (hE g N sc xe n e).map fun t W => cTru g.K (t W) else none
end
def sBody (f : Stmt → TS) : List Stmt → TS
  | [] => tNext
  | [s] => f s
  | s :: r => tSeq (f s) (sBody f r)
def hS (g : G) (N : List Str) (sc : Scope) (xe : Option XeI) : Nat → Stmt → TS
  | 0, _ => tNever
  | n + 1, st => match st with
    | .Pass _ => tNext
    | .Expr e _ => if notComp e = true then (match hE g N sc xe n e with
      | some t => tDrop (t wNone)
      | none => tNever) else tNever
    | .Return none _ => tRetN
    | .Return (some e) _ => (match hE g N sc xe n e with
      | some t => tRet (t wNone)
      | none => tNever)
    | .Assign [.Name y _] v _ => if plainName y = true ∧ sc.names.lookup y = some .local ∧ notComp v = true then (match ix? N y, hE g N sc xe n v with
      | some i, some t => tAsg (t wNone) (gName i)
      | _, _ => tNever) else tNever
    | .Assign [.Subscript o i _] v _ => if notSlice i = true ∧ notComp v = true then (match hE g N sc xe n o, hE g N sc xe n i, hE g N sc xe n v with
      | some to, some ti, some tv => tAsg (tv wNone) (gSub (to wNone) (ti wNone) oSet)
      | _, _, _ => tNever) else tNever
    | .If c a b _ => (match hT g N sc xe n c with
      | some tc => tIfS (tc wNone) (sBody (hS g N sc xe n) a) (sBody (hS g N sc xe n) b)
      | none => tNever)
    | _ => tNever
/-- where it is read -/
structure HOkc (g : G) (X : Cx) (N : List Str) (sc : Scope) (xe : Option XeI) : Prop extends BOk g X N sc where
  xok : ∀ i, xe = some i → ∀ {x : Str} {k : Nat} {p pos : Pos} {f : Str}, x = i.en → plainName x = true → sc.names.lookup x = some .local → ix? N x = some k → PE X (.Attribute (.Name x p) f pos) (cXf g k i.a i.cls i.d f)
  xis : ∀ i, xe = some i → CallR X (.builtin "isinstance") (rIsX g i.a i.cls i.d)
section
variable {g : G} {X : Cx} {N : List Str} {sc : Scope} {en : Str} {a : Addr} {oe : Obj} {cls : Value} {d : Option Addr} {pn : List (Addr × Obj)}
theorem BOk.suite (c : BOk g X N sc) : BOk g (X.suite a ((a, oe) :: pn)) N sc := ⟨c.gok, c.hK, c.hN, c.hsc, c.nd, c.gd, c.un, c.room.elim fun lev r => ⟨lev, r.1, ⟨r.2.dp, r.2.un⟩⟩⟩
theorem cXf_ok (c : BOk g X N sc) (hz : Zc cls d oe) (hf : ∃ vs, oe.data = .fields vs) {x : Str} {i : Nat} {p pos : Pos} {f : Str} (hx : plainName x = true) (hl : sc.names.lookup x = some .local) (hi : ix? N x = some i) :
    PE (X.suite a ((a, oe) :: pn)) (.Attribute (.Name x p) f pos) (cXf g i a cls d f) := by
  have cs : BOk g (X.suite a ((a, oe) :: pn)) N sc := c.suite
  have hN : (X.suite a ((a, oe) :: pn)).N[i]? = some x := by rw [cs.hN]; exact ix_get hi
  have vis : Vis (X.suite a ((a, oe) :: pn)).env.scope x := by
    unfold Vis
    rw [cs.hsc, hl]
    simp
  have v := cVar_ok (pos := p) hN vis hx
  obtain ⟨lev, gok⟩ := c.gok
  refine ⟨fun pins s σ H Q I h => ?_⟩
  obtain ⟨e0, y, hy, rfl, hc, dd, fs, w, rfl, ed, el, q⟩ := h
  obtain ⟨b, fI, fd, px, m1, m2, m3, m4, _⟩ := gok.xcs y hy
  refine (pe_xf (X := X) (C := y.C) (n := y.f) (by rw [c.hK]; exact m3) (by rw [c.hK]; exact m4) hz hf v).run pins s σ H Q I ?_
  unfold tXf cVar
  rw [e0]
  exact ⟨rfl, hc, dd, fs, w, rfl, ed, el, q⟩
theorem hCmp_ok (c : BOk g X N sc) {op : CmpOp} {r : R2} (h : hCmp g op = some r) : OpR X (compareOp op) r := by
  have hu : X.A.units + 64 < cLine := by have := c.un; omega
  have hu5 : X.A.units + 65 < cLine := by have := c.un; omega
  unfold hCmp at h
  rw [← c.hK] at h
  split at h <;> cases h
  · exact r_lt
  · exact r_le
  · exact r_gt
  · exact r_ge
  · exact fun pins s σ H x y v u Q I rx ry h => h.elim (fun h => r_eq hu pins s σ H x y v u Q I rx ry h) (fun h => op_eqDD hu5 pins s σ H x y v u Q I rx ry h)
  · exact fun pins s σ H x y v u Q I rx ry h => h.elim (fun h => r_ne hu pins s σ H x y v u Q I rx ry h) (fun h => op_neDD hu5 pins s σ H x y v u Q I rx ry h)
  · exact r_in hu5
  · exact r_notin hu5
  · exact r_is
  · exact r_isnot
theorem hBin_ok (c : BOk g X N sc) {op : Operator} {r : R2} (h : hBin g op = some r) : OpR X (binaryOp op) r := by
  unfold hBin at h
  rw [← c.hK] at h
  split at h <;> cases h
  · exact r_add
  · exact r_sub
  · exact r_mul
  · exact r_fdiv
  · exact r_mod
theorem hBlt_ok (c : BOk g X N sc) {x : Str} {v : Value} {r : RC} (h : (hBlt g).lookup x = some (v, r)) : CallR X v r ∧ Keeps X v := by
  have hu : X.A.units + 64 < cLine := by have := c.un; omega
  obtain ⟨lev, gok⟩ := c.gok
  have hm := PySem.mem_of_lookup h
  simp only [hBlt, List.mem_cons, List.not_mem_nil, or_false, Prod.mk.injEq] at hm
  rcases hm with ⟨_, rfl, rfl⟩ | ⟨_, rfl, rfl⟩ | ⟨_, rfl, rfl⟩ | ⟨_, rfl, rfl⟩ | ⟨_, rfl, rfl⟩ | ⟨_, rfl, rfl⟩ | ⟨_, rfl, rfl⟩
  all_goals try rw [← c.hK]
  · exact ⟨b_repr c.gd hu (by rw [c.hK]; exact gok.sys), keeps_blt⟩
  · exact ⟨b_len, keeps_blt⟩
  · exact ⟨b_isi, keeps_blt⟩
  · exact ⟨b_abs, keeps_blt⟩
  · exact ⟨b_ord, keeps_blt⟩
  · exact ⟨b_int, keeps_ty⟩
  · exact ⟨b_tuple, keeps_ty⟩
theorem hCallName_ok (c : BOk g X N sc) {W : WX} {f : Expr → OE} (h : SE X W f) {x : Str} {p pos : Pos} {es : List Expr} {kws : List Keyword} {t : WX → TE} (q : hCallName g f sc x es kws = some t) : PE X (.Call (.Name x p) es kws pos) (t W) := by
  unfold hCallName at q
  split at q
  · rename_i hx
    have hg : Gl X x := by unfold Gl Env.kindOf; rw [c.hsc]; exact hx.2
    split at q
    · rename_i ks ta tk e1 e2 e3
      obtain ⟨a1, a2, a3⟩ := tArgs_ok h e2
      obtain ⟨b1, b2⟩ := tKws_ok h e3
      split at q
      · rename_i i ei
        cases q
        have hi := List.mem_of_find?_eq_some ei
        have hp := List.find?_some ei
        simp only [Bool.and_eq_true, decide_eq_true_eq] at hp
        obtain ⟨⟨p1, p2⟩, p3⟩ := hp
        obtain ⟨lev, gok, room⟩ := c.room
        obtain ⟨fa, fd, ps, gf, m1, m2, F, kb⟩ := gok.hfs i hi
        rw [← c.hK] at m2 F kb
        rw [p1] at m1
        rw [p2, p3] at kb
        exact pe_ownH F room c.gd kb takes0 hg m1 m2 hx.1 a3 a2 e1 a1 b1
      · split at q
        · rename_i hb
          obtain ⟨hb, rfl, hne⟩ := hb
          obtain ⟨lev, gok⟩ := c.gok
          split at q
          · rename_i v r er
            split at q
            · rename_i hv
              cases q
              obtain ⟨o1, o2⟩ := hBlt_ok c er
              exact pe_blt o1 o2 hg (gok.blt x hb) hv hx.1 a3 a2 a1
            · cases q
          · cases q
        · cases q
    · cases q
  · cases q
variable {xe : Option XeI} {W : WX}
theorem hIsX_ok (c : HOkc g X N sc xe) {f : Expr → OE} (h : SE X W f) {x : Str} {p pos : Pos} {es : List Expr} {kws : List Keyword} {t : WX → TE} (q : hIsX g f N sc xe x es kws = some t) : PE X (.Call (.Name x p) es kws pos) (t W) := by
  unfold hIsX at q
  split at q
  · split at q
    · rename_i i z zp ec hc
      obtain ⟨rfl, rfl, rfl, h1, h2, h3, h4, h5⟩ := hc
      split at q
      · rename_i k tc e1 e2
        cases q
        obtain ⟨lev, gok⟩ := c.gok
        have hg : Gl X "isinstance" := by unfold Gl Env.kindOf; rw [c.hsc]; exact h3
        have vis : Vis X.env.scope i.en := by unfold Vis; rw [c.hsc, h2]; simp
        refine pe_blt (c.xis i rfl) keeps_blt hg (gok.blt _ h4) (by rfl) (by decide) (fun z => nomatch z) ?_ (pa_cons (cVar_ok (by rw [c.hN]; exact ix_get e1) vis h1) (pa_cons (h _ _ e2) pa_nil (star_of h5)) (star_of rfl))
        rw [List.all_cons, List.all_cons, h5]; rfl
      · cases q
    · cases q
  · cases q
theorem hET_ok (c : HOkc g X N sc xe) : ∀ (n : Nat), SE X W (hE g N sc xe n) ∧ ST X W (hT g N sc xe n)
  | 0 => ⟨fun e t q => by simp [hE] at q, fun e t q => by simp [hT] at q⟩
  | n + 1 => by
    obtain ⟨ihE, ihT⟩ := hET_ok c n
    have cb := c.toBOk
    refine ⟨fun e t q => ?_, fun e t q => ?_⟩
    · unfold hE at q
      split at q
      · split at q
        · cases q; exact pe_int
        · cases q; exact pe_bl
        · cases q; exact pe_non
        · cases q; exact pe_str
        · cases q
      · split at q
        · cases q
        · obtain ⟨u, hu, rfl⟩ := Option.map_eq_some_iff.mp q
          exact tName_ok hu cb
      · split at q
        · rename_i i
          split at q
          · rename_i hc
            obtain ⟨k, hk, rfl⟩ := Option.map_eq_some_iff.mp q
            exact c.xok i rfl hc.1 hc.2.1 hc.2.2 hk
          · cases q
        · cases q
      · obtain ⟨u, hu, rfl⟩ := Option.map_eq_some_iff.mp q
        exact pe_tup (tArgs_ok ihE hu).1
      · obtain ⟨u, hu, rfl⟩ := Option.map_eq_some_iff.mp q
        exact pe_lst (tArgs_ok ihE hu).1
      · split at q
        · rename_i e; cases q; exact hIsX_ok c ihE e
        · exact hCallName_ok cb ihE q
      · split at q
        · rename_i hb
          split at q
          · rename_i e1 e2
            cases q
            obtain ⟨a1, a2, a3⟩ := tArgs_ok ihE e2
            rw [← cb.hK]
            refine pe_methH hb.1 a2 hb.2.2 hb.2.1 (fun b hbm => ?_) a3 (ihE _ _ e1) a1
            obtain ⟨z1, z2⟩ := List.mem_filter.mp hbm
            exact ⟨bms_ok (by have := cb.un; omega) b z1, of_decide_eq_true z2⟩
          · cases q
        · cases q
      · split at q
        · rename_i e1 e2 e3
          cases q
          exact pe_op (hBin_ok cb e1) (ihE _ _ e2) (ihE _ _ e3)
        · cases q
      · split at q
        · rename_i hs
          split at q
          · rename_i e1 e2 e3
            cases q
            exact pe_cmpR (hCmp_ok cb e1) (ihE _ _ e2) (ihE _ _ e3) (notSet_b hs)
          · cases q
        · cases q
      · rw [← cb.hK] at q
        exact tBool_ok ihE true q
      · rw [← cb.hK] at q
        exact tBool_ok ihE false q
      · obtain ⟨u, hu, rfl⟩ := Option.map_eq_some_iff.mp q
        rw [← cb.hK]
        exact pe_not' (ihE _ _ hu)
      · split at q
        · rename_i e1 e2 e3
          cases q
          exact pe_ifExp (ihT _ _ e1) (ihE _ _ e2) (ihE _ _ e3)
        · cases q
      · cases q
      · split at q
        · rename_i hs
          split at q
          · rename_i e1 e2
            cases q
            rw [← cb.hK]
            exact pe_ix (r_ix (by have := cb.un; omega)) (ihE _ _ e1) (ihE _ _ e2) (notSlice_ix hs)
          · cases q
        · cases q
      · cases q
    · unfold hT at q
      split at q
      · split at q
        · rename_i hs
          split at q
          · rename_i e1 e2 e3
            cases q
            exact pt_cmp' (hCmp_ok cb e1) (ihE _ _ e2) (ihE _ _ e3) (notSet_b hs)
          · cases q
        · cases q
      · exact (tBoolT_ok ihT true q).pt
      · exact (tBoolT_ok ihT false q).pt
      · obtain ⟨u, hu, rfl⟩ := Option.map_eq_some_iff.mp q
        exact pt_not (ihT _ _ hu)
      · split at q
        · rename_i hp
          obtain ⟨u, hu, rfl⟩ := Option.map_eq_some_iff.mp q
          rw [← cb.hK]
          exact pt_tru' (ihE _ _ hu) fun whole => plain_true hp
        · cases q
theorem sBody_ok {X : Cx} {f : Stmt → TS} (h : ∀ st, PS X st (f st)) : ∀ (l : List Stmt), PSs X l (sBody f l)
  | [] => pss_nil
  | [s] => pss_one (h s)
  | s :: s2 :: r => show PSs X _ (tSeq (f s) (sBody f (s2 :: r))) from pss_cons (h s) (sBody_ok h (s2 :: r))
theorem hS_ok (c : HOkc g X N sc xe) : ∀ (n : Nat) (st : Stmt), PS X st (hS g N sc xe n st)
  | 0, st => ps_never
  | n + 1, st => by
    have ih := hS_ok c n
    have cb := c.toBOk
    have hE' : ∀ {e : Expr} {t : WX → TE}, hE g N sc xe n e = some t → PE X e (t wNone) := fun q => (hET_ok (W := wNone) c n).1 _ _ q
    unfold hS
    split
    · exact ps_pass
    · split
      · rename_i hn
        split
        · rename_i e1; exact ps_expr (hE' e1) (notComp_sw hn)
        · exact ps_never
      · exact ps_never
    · exact ps_retN
    · split
      · rename_i e1; exact ps_ret (hE' e1)
      · exact ps_never
    · split
      · rename_i y py v ps hc
        obtain ⟨h1, h2, h3⟩ := hc
        split
        · rename_i i t e1 e2
          refine ps_asg (hE' e2) ?_ ?_ rfl rfl
          rotate_left
          · show swapsWith v (some (.Name y py)) ps.line X.env = pure false
            exact notComp_sw h3
          refine pg_name cb.nd (by rw [cb.hN]; exact ix_get e1) ?_ ?_
          · unfold L2.Loc
            rw [cb.hsc, h2]
            simp
          · rw [cb.hsc, h2]
            exact .inr rfl
        · exact ps_never
      · exact ps_never
    · split
      · rename_i o i ps v ps2 hc
        obtain ⟨h1, h2⟩ := hc
        split
        · rename_i to ti tv e1 e2 e3
          refine ps_asg (hE' e3) ?_ ?_ rfl rfl
          rotate_left
          · show swapsWith v (some (.Subscript o i ps)) ps2.line X.env = pure false
            exact notComp_sw h2
          refine pg_sub (hE' e1) (hE' e2) (r_set (by have := cb.un; omega)) ?_
          intro v
          cases i <;> first | rfl | exact absurd h1 Bool.false_ne_true
        · exact ps_never
      · exact ps_never
    · split
      · rename_i e1; exact ps_if ((hET_ok (W := wNone) c n).2 _ _ e1) (sBody_ok ih _) (sBody_ok ih _)
      · exact ps_never
    · exact ps_never
theorem hok_suite (c : BOk g X N sc) (hz : Zc cls d oe) (hf : ∃ vs, oe.data = .fields vs) (en : Str) : HOkc g (X.suite a ((a, oe) :: pn)) N sc (some ⟨en, a, cls, d⟩) where
  toBOk := c.suite
  xok := by
    intro i hi x k p pos f h1 h2 h3 h4
    cases hi
    exact cXf_ok c hz hf h2 h3 h4
  xis := fun i hi => by
    cases hi
    exact call_isX c.hK hz hf
theorem hok_suite0 (c : BOk g X N sc) : HOkc g (X.suite a ((a, oe) :: pn)) N sc none where
  toBOk := c.suite
  xok := fun i hi => nomatch hi
  xis := fun i hi => nomatch hi
end
/-- the clauses, told -/
def clsVal (g : G) (sc : Scope) (x : Str) : Option Value := if plainName x = true ∧ sc.names.lookup x = some .globalImplicit then (match g.cons.lookup x with
  | some (.ref C) => some (.ref C)
  | _ => none) else none
def tCl (g : G) (N : List Str) (sc : Scope) : List ExceptHandler → List ClR
  | [] => []
  | .ExceptHandler (some (.Name x _)) none (b :: suite) _ :: r => (match clsVal g sc x with
    | some c => .one c none (fun a cls d => sBody (hS g N sc none 20) (b :: suite)) :: tCl g N sc r
    | none => [.dead])
  | .ExceptHandler (some (.Name x _)) (some n) (b :: suite) _ :: r => (match clsVal g sc x, ix? N n with
    | some c, some i => if sc.names.lookup n = some .local then .one c (some i) (fun a cls d => sBody (hS g N sc (some ⟨n, a, cls, d⟩) 20) (b :: suite)) :: tCl g N sc r else [.dead]
    | _, _ => [.dead])
  | _ => [.dead]
theorem clsVal_ok {g : G} {X : Cx} {N : List Str} {sc : Scope} (c : BOk g X N sc) {x : Str} {v : Value} (h : clsVal g sc x = some v) : Names X x v := by
  obtain ⟨lev, gok⟩ := c.gok
  unfold clsVal at h
  split at h
  · rename_i hc
    split at h
    · rename_i C e
      cases h
      obtain ⟨u, h1, h2⟩ := gok.cons _ (lookup_mem e)
      obtain rfl : u = Value.ref C := h2
      refine ⟨?_, plain_d hc.1, .inl h1⟩
      unfold Gl Env.kindOf
      rw [c.hsc]
      exact hc.2
    · cases h
  · cases h
theorem tCl_ok {g : G} {X : Cx} {N : List Str} {sc : Scope} (c : BOk g X N sc) : ∀ (l : List ExceptHandler), ClOk X l (tCl g N sc l) := by
  intro l
  fun_induction tCl g N sc l with
  | case1 => exact .nil
  | case2 x np b suite pos r v e ih => exact .one (clsVal_ok c e) (fun a oe cls d pn hz hf => sBody_ok (fun st => hS_ok (hok_suite0 c) 20 st) _) ih
  | case3 => exact .dead
  | case4 x np n b suite pos r v i e2 e1 hl ih =>
    refine .as_ (clsVal_ok c e1) (by rw [c.hN]; exact ix_get e2) ?_ (fun a oe cls d pn hz hf => sBody_ok (fun st => hS_ok (hok_suite c hz hf n) 20 st) _) ih
    unfold Env.kindOf
    rw [c.hsc]
    exact hl
  | case5 => exact .dead
  | case6 => exact .dead
  | case7 => exact .dead
end WR

set_option Elab.async false
set_option linter.all false
set_option maxRecDepth 100000
set_option maxHeartbeats 4000000
namespace WR
open PySem PySem.Spec PyProof.Rows L2

def isName : Expr → Bool
  | .Name _ _ => true
  | _ => false
def tupPair : Expr → Expr → Bool
  | .Tuple _ _ _, .Tuple _ _ _ => true
  | .List _ _, .Tuple _ _ _ => true
  | _, _ => false
theorem tupPair_ok {t v : Expr} {env : Env} (h : tupPair t v = false) : swappedStores [t] v env = pure none := by
  cases t <;> first
    | rfl
    | (cases v <;> first | rfl | exact absurd h.symm Bool.false_ne_true)
def cPar3 (i j l : Nat) (ta : TA) : TS := fun D σ H => ta σ H fun vs H1 => match vs with
  | [u, v, w] => D.nx (((σ.set i (some u)).set j (some v)).set l (some w)) H1
  | _ => False
def anyOwn (scope : Scope) (y : Str) : Bool := scope.names.any fun (n, k) => n == y && (k == .local || k == .cell)
/-- target = value, generally -/
def tAsgG (g : G) (f : Expr → OE) (N : List Str) (sc : Scope) (tg v : Expr) : Option (WX → TS) :=
  if tupPair tg v = false ∧ notStar tg = true ∧ (notComp v = true ∨ isName tg = false) then (match tG g.K f N sc (fun _ => true) 12 tg, f v with
    | some gt, some tv => some fun W => tAsg (tv W) (gt W)
    | _, _ => none) else none
def tParS (g : G) (f : Expr → OE) (N : List Str) (sc : Scope) : Expr → Expr → Option (WX → TS)
  | .Tuple ts _ _, .Tuple vs _ _ => (match swR sc ts vs, tArgs f vs with
    | some (some _), some t => (match ts, vs with
      | [.Name x _, .Name y _], [_, _] => if sc.names.lookup x = some .local ∧ sc.names.lookup y = some .local ∧ x ≠ y ∧ swR sc ts vs = some (some [x, y]) then (match ix? N x, ix? N y with
          | some i, some j => some fun W => cPar i j (t W)
          | _, _ => none) else none
      | [.Name x _, .Name y _, .Name z _], [_, _, _] => if sc.names.lookup x = some .local ∧ sc.names.lookup y = some .local ∧ sc.names.lookup z = some .local ∧ x ≠ y ∧ x ≠ z ∧ y ≠ z ∧ swR sc ts vs = some (some [x, y, z]) then (match ix? N x, ix? N y, ix? N z with
          | some i, some j, some l => some fun W => cPar3 i j l (t W)
          | _, _, _ => none) else none
      | _, _ => none)
    | some none, some t => (match tGs g.K f N sc (fun _ => true) 12 ts with
      | some gs => if ts.all notStar = true then some fun W => tAsg (tTup (t W)) (cTupG g.K ts.length (gs W)) else none
      | none => none)
    | _, _ => none)
  | _, _ => none
def tSetLc2 (g : G) (n : Nat) (N : List Str) (sc : Scope) (y : Str) (py : Pos) (elt : Expr) (gs : List Comprehension) (scope : Scope) (pos : Pos) : Option (WX → TS) :=
    if sc.names.lookup y ≠ some .local ∨ (py.line == pos.line) = false ∨ anyOwn scope y = true then (match tG g.K (tE g n N sc) N sc (fun _ => true) 12 (.Name y py), tE g n N sc (.ListComp elt gs scope pos) with
      | some gt, some tv => some fun W => tAsg (tv W) (gt W)
      | _, _ => none) else none
/-- name = [.. for ..] -/
def tSetLc (g : G) (n : Nat) (N : List Str) (sc : Scope) : Expr → Expr → Option (WX → TS)
  | .Name y py, .ListComp elt [⟨tg, iter, ifs, 0⟩] scope pos =>
    if plainName y = true ∧ sc.names.lookup y = some .local ∧ (py.line == pos.line) = true ∧ anyOwn scope y = false ∧ blkC N sc scope (ownOf N scope) = true then
      (match ix? N y, tI g (tE g n N sc) sc tg iter, tG g.K (tE g n N (relS scope sc)) N (relS scope sc) (okBlk scope) 12 tg, tIfs (tT g n N (relS scope sc)) ifs, tE g n N (relS scope sc) elt with
      | some i, some wi, some gt, some tt, some te => some fun W D σ H => tAsg (cLc (wi W) (gt wNone) (tt wNone) (te wNone) ((ownOf N scope).map (·.2))) (gName i) D σ H ∨ tLock (tAsg (cLc (wi W) (gt wNone) (tt wNone) (te wNone) ((ownOf N scope).map (·.2))) (gName i)) D σ H
      | _, _, _, _, _ => none)
    else tSetLc2 g n N sc y py elt [⟨tg, iter, ifs, 0⟩] scope pos
  | .Name y py, .ListComp elt gs scope pos => tSetLc2 g n N sc y py elt gs scope pos
  | _, _ => none
def tAssign (g : G) (n : Nat) (N : List Str) (sc : Scope) (tg v : Expr) : Option (WX → TS) := match tg with
  | .Attribute o a _ => if baseOk o = true then (match g.ats.lookup a, tE g n N sc o, tE g n N sc v with
    | some cs, some to, some tv => some fun W => cFldS cs a (to W) (tv W)
    | _, _, _ => none) else none
  | _ => match tSetLc g n N sc tg v with
    | some t => some t
    | none => match tParS g (tE g n N sc) N sc tg v with
      | some t => some t
      | none => tAsgG g (tE g n N sc) N sc tg v
def orBad (o : Option (WX → TS)) : WX → TS := match o with
  | some t => t
  | none => bad
def tBody (f : Stmt → WX → TS) : List Stmt → WX → TS
  | [] => fun _ => tNext
  | [s] => f s
  | s :: r => fun W => tSeq (f s W) (tBody f r W)
def tRaise (g : G) (f : Expr → OE) (sc : Scope) : Expr → Option (WX → TS)
  | .Call (.Name x _) [e] [] _ => if plainName x = true ∧ sc.names.lookup x = some .globalImplicit ∧ notStar e = true then (match g.xcs.find? (fun i => decide (i.name = x)), f e with
    | some i, some te => some fun W _ σ H => tMkX i.C i.f (te W) σ H fun cls d H' => W cls d σ H'
    | _, _ => none) else none
  | _ => none
def tS (g : G) : Nat → List Str → Scope → Stmt → WX → TS
  | 0, _, _, _ => fun _ => tNever
  | n + 1, N, sc, st => fun W => match st with
    | .Pass _ => tNext
    | .Break _ => tBreak
    | .Continue _ => tCont
    | .Expr e _ => if notComp e = true then orBad ((tE g n N sc e).map fun t W => tDrop (t W)) W else tNever
    | .Return none _ => tRetN
    | .Return (some e) _ => orBad ((tE g n N sc e).map fun t W => tRet (t W)) W
    | .Assign [tg] v _ => orBad (tAssign g n N sc tg v) W
    | .AugAssign (.Name x _) op v _ => orBad (match sc.names.lookup x, ix? N x, iopR g.K op, tE g n N sc v with
      | some .local, some i, some r, some tv => some fun W => cAug i (tv W) r
      | some .cell, some i, some r, some tv => some fun W => cAug i (tv W) r
      | _, _, _, _ => none) W
    | .AugAssign (.Attribute o a _) .Add v _ => orBad (match g.ats.lookup a, tE g n N sc o, tE g n N sc v with
      | some cs, some to, some tv => some fun W => cFldAug cs a false (to W) (tv W)
      | _, _, _ => none) W
    | .AugAssign (.Attribute o a _) .Sub v _ => orBad (match g.ats.lookup a, tE g n N sc o, tE g n N sc v with
      | some cs, some to, some tv => some fun W => cFldAug cs a true (to W) (tv W)
      | _, _, _ => none) W
    | .If c a b _ => (match tT g n N sc c with
      | some tc => tIfS (tc W) (tBody (tS g n N sc) a W) (tBody (tS g n N sc) b W)
      | none => tNever)
    | .While c a [] _ => (match tT g n N sc c with
      | some tc => cWhile (tc W) (tBody (tS g n N sc) a W)
      | none => tNever)
    | .For tg iter body [] _ => (match tI g (tE g n N sc) sc tg iter, tG g.K (tE g n N sc) N sc (fun _ => true) 12 tg with
      | some wi, some gt => fun D σ H => cFor (wi W) (gt W) (tBody (tS g n N sc) body W) D σ H ∨ tLock (cFor (wi W) (gt W) (tBody (tS g n N sc) body W)) D σ H
      | _, _ => tNever)
    | .Raise (some e) none _ => orBad (tRaise g (tE g n N sc) sc e) W
    | .Try body (h0 :: hs) [] [] _ => fun D σ H => tBody (tS g n N sc) body (wCl g.K W D (tCl g N sc (h0 :: hs))) D σ H
    | _ => tNever

/-- where a statement is read -/
structure KOk (g : G) (lev : Nat) (X : Cx) (N : List Str) (sc : Scope) (W : WX) : Prop extends COk g lev X N sc W where
  hp : PassesOwn (model X.prog X.w) X.A X.env X.xe
  stk : X.stack = X.env :: X.outer
  fr : X.env.frame = some X.env.locals
  hfn : ∀ x, X.fn x = true
  kind : X.env.scope.kind = .function
section
variable {g : G} {lev : Nat} {X : Cx} {N : List Str} {sc : Scope} {W : WX} {f : Expr → OE}
theorem ps_bad {st : Stmt} : PS X st tNever := ps_never
theorem orBad_ok {st : Stmt} {o : Option (WX → TS)} (h : ∀ t, o = some t → PS X st (t W)) : PS X st (orBad o W) := by
  unfold orBad
  split
  · exact h _ rfl
  · exact ps_never
theorem KOk.tr (c : KOk g lev X N sc W) {W' : WX} {pn : List (Addr × Obj)} {xe : Value → Shared → Prop} (tk : Takes (X.tr pn xe) W') (hp : PassesOwn (model X.prog X.w) X.A X.env xe) : KOk g lev (X.tr pn xe) N sc W' where
  gok := c.gok
  hK := c.hK
  hN := c.hN
  hsc := c.hsc
  nd := c.nd
  calm := c.calm
  tk := tk
  room := c.room
  gd := c.gd
  room2 := c.room2
  hp := hp
  stk := c.stk
  fr := c.fr
  hfn := c.hfn
  kind := c.kind
theorem tRaise_ok (c : KOk g lev X N sc W) (h : SE X W f) {e : Expr} {pos : Pos} {t : WX → TS} (q : tRaise g f sc e = some t) : PS X (.Raise (some e) none pos) (t W) := by
  unfold tRaise at q
  split at q
  · split at q
    · rename_i hc
      obtain ⟨h1, h2, h3⟩ := hc
      split at q
      · rename_i i te ei ee
        cases q
        have hi := List.mem_of_find?_eq_some ei
        have hn := List.find?_some ei
        simp only [decide_eq_true_eq] at hn
        obtain ⟨b, fI, fd, px, m1, m2, m3, m4, m5, m6, m7, m8⟩ := c.gok.xcs i hi
        rw [← c.hK] at m2 m3 m4 m5 m6 m7 m8
        rw [hn] at m1
        refine ps_raise c.calm c.tk (pmk_x m2 m4 m5 m6 m7 c.room2 m8 ?_ h1 m1 h3 (h _ _ ee))
        unfold Gl Env.kindOf
        rw [c.hsc]
        exact h2
      · cases q
    · cases q
  · cases q
theorem KOk.bk (c : KOk g lev X N sc W) : X.env.blockKind = .function := by unfold Env.blockKind; rw [c.kind]; rfl
theorem tAsgG_ok (c : KOk g lev X N sc W) (h : SE X W f) {tg v : Expr} {pos : Pos} {t : WX → TS} (q : tAsgG g f N sc tg v = some t) : PS X (.Assign [tg] v pos) (t W) := by
  unfold tAsgG at q
  split at q
  · rename_i hc
    obtain ⟨h1, h2, h3⟩ := hc
    split at q
    · rename_i e1 e2
      cases q
      refine ps_asg (h _ _ e2) (tG_ok c.toCOk h (fun x _ => c.hfn x) 12 _ _ e1) ?_ (tupPair_ok h1) (by rw [assign_star h2]; rfl)
      show swapsWith v (some tg) pos.line X.env = pure false
      rcases h3 with h3 | h3
      · exact notComp_sw h3
      · cases tg <;> first | (exact absurd h3.symm Bool.false_ne_true) | (cases v <;> rfl)
    · cases q
  · cases q
theorem tParS_ok (c : KOk g lev X N sc W) (h : SE X W f) {tg v : Expr} {pos : Pos} {t : WX → TS} (q : tParS g f N sc tg v = some t) : PS X (.Assign [tg] v pos) (t W) := by
  unfold tParS at q
  split at q
  · rename_i ts k p vs k2 p2
    split at q
    · rename_i nm ta e1 e2
      obtain ⟨a1, a2, a3⟩ := tArgs_ok h e2
      split at q
      · split at q
        · rename_i hc
          obtain ⟨l1, l2, ne, hsw⟩ := hc
          split at q
          · rename_i i j i1 i2
            cases q
            have hij : i ≠ j := fun e => ne (by
              have z1 := ix_get i1; have z2 := ix_get i2
              rw [e] at z1; rw [z1] at z2; exact Option.some.inj z2)
            refine PS_imp (ps_par (X := X) (pos := pos) c.calm c.nd (by rw [c.hN]; exact ix_get i1) (by rw [c.hN]; exact ix_get i2) hij (by rw [c.hsc]; exact l1) (by rw [c.hsc]; exact l2) (PA_up a1) (swR_ok c.bk c.hsc hsw) rfl) fun D σ H q => ⟨_, q, fun vs H1 q => ?_⟩
            try dsimp only at q
            split at q
            · exact ⟨_, _, rfl, q⟩
            · exact q.elim
          · cases q
        · cases q
      · split at q
        · rename_i hc
          obtain ⟨l1, l2, l3, ne1, ne2, ne3, hsw⟩ := hc
          split at q
          · rename_i i j l i1 i2 i3
            cases q
            have dif : ∀ {a b : Str} {m n : Nat}, a ≠ b → ix? N a = some m → ix? N b = some n → m ≠ n := fun ne i1 i2 e => ne (by
              have z1 := ix_get i1; have z2 := ix_get i2
              rw [e] at z1; rw [z1] at z2; exact Option.some.inj z2)
            refine PS_imp (ps_par3 (X := X) (pos := pos) c.calm c.nd (by rw [c.hN]; exact ix_get i1) (by rw [c.hN]; exact ix_get i2) (by rw [c.hN]; exact ix_get i3) (dif ne1 i1 i2) (dif ne2 i1 i3) (dif ne3 i2 i3) (by rw [c.hsc]; exact l1) (by rw [c.hsc]; exact l2) (by rw [c.hsc]; exact l3) (PA_up a1) (swR_ok c.bk c.hsc hsw) rfl) fun D σ H q => ⟨_, q, fun vs H1 q => ?_⟩
            try dsimp only at q
            split at q
            · exact ⟨_, _, _, rfl, q⟩
            · exact q.elim
          · cases q
        · cases q
      · cases q
    · rename_i ta e1 e2
      obtain ⟨a1, a2, a3⟩ := tArgs_ok h e2
      split at q
      · rename_i gs e3
        split at q
        · rename_i hs
          cases q
          have z := tGs_ok (okc := fun _ => true) c.toCOk h (fun x _ => c.hfn x) 12 _ _ e3
          refine ps_asg (pe_tup a1) ⟨fun pins s σ H v w Q I r hw => (pg_tup c.calm z assign_len (assign_none hs)).run pins s σ H v w Q I r ?_⟩ rfl (swR_ok c.bk c.hsc e1) rfl
          simp only [cTupG] at hw
          split at hw
          · split at hw
            · rename_i e; exact ⟨_, _, rfl, by rw [c.hK]; exact look_tup e, hw.1, hw.2⟩
            · exact hw.elim
          · exact hw.elim
        · cases q
      · cases q
    · cases q
  · cases q

theorem ps_orLock {st : Stmt} {t : TS} (h : PS X st t) : PS X st (fun D σ H => t D σ H ∨ tLock t D σ H) :=
  ⟨fun pins s σ H D I q => q.elim (fun q => h.run pins s σ H D I q) fun q => (ps_lock h).run pins s σ H D I q⟩
theorem seE (c : COk g lev X N sc W) (n : Nat) : SE X W (tE g n N sc) := fun e t q => (tET_ok g n).1 _ _ e t q c
theorem seT (c : COk g lev X N sc W) (n : Nat) : ST X W (tT g n N sc) := fun e t q => (tET_ok g n).2 _ _ e t q c
theorem sw_off {env : Env} {sc scope : Scope} {y : Str} {lb : Bool} (hs : env.scope = sc) (h : sc.names.lookup y ≠ some .local ∨ lb = false ∨ anyOwn scope y = true) :
    (env.blockKind == .function && env.kindOf y == some .local && lb && !(scope.names.any fun (n, k) => n == y && (k == .local || k == .cell))) = false := by
  rcases h with h | h | h
  · have : (env.kindOf y == some NameKind.local) = false := by
      unfold Env.kindOf; rw [hs]; exact beq_eq_false_iff_ne.mpr h
    rw [this]; simp
  · rw [h]; simp
  · have : (scope.names.any fun (n, k) => n == y && (k == .local || k == .cell)) = true := h
    rw [this]; simp
theorem tSetLc2_ok (c : KOk g lev X N sc W) {n : Nat} {y : Str} {py : Pos} {elt : Expr} {gs : List Comprehension} {scope : Scope} {pos2 pos : Pos} {t : WX → TS} (q : tSetLc2 g n N sc y py elt gs scope pos2 = some t) : PS X (.Assign [.Name y py] (.ListComp elt gs scope pos2) pos) (t W) := by
  have c0 := c.toCOk
  unfold tSetLc2 at q
  split at q
  · rename_i hc
    split at q
    · rename_i e1 e2
      cases q
      refine ps_asg (seE c0 n _ _ e2) (tG_ok c0 (seE c0 n) (fun x _ => c.hfn x) 12 _ _ e1) ?_ rfl rfl
      refine Eq.trans (sw_cond (l := pos.line)) ?_
      refine congrArg (pure : Bool → Sem Bool) ?_
      exact sw_off c.hsc hc
    · cases q
  · cases q
theorem tSetLc_ok (c : KOk g lev X N sc W) {n : Nat} {tg v : Expr} {pos : Pos} {t : WX → TS} (q : tSetLc g n N sc tg v = some t) : PS X (.Assign [tg] v pos) (t W) := by
  have c0 := c.toCOk
  unfold tSetLc at q
  split at q
  · split at q
    · rename_i hc
      obtain ⟨h0, h1, h2, h3, h4⟩ := hc
      split at q
      · rename_i i wi gt tt te e1 e2 e3 e4 e5
        cases q
        obtain ⟨i1, i2⟩ := tI_ok c0 (seE c0 n) e2
        have ok : BlkOk X.N X.env.scope _ _ := blkOk_by (by rw [c.hN, c.hsc]; exact h4)
        refine ps_orLock (PS_imp (ps_setLc c.calm c.nd (by rw [c.hN]; exact ix_get e1) (by rw [c.hsc]; exact h1) (sw_true c.kind (by rw [c.hsc]; exact h1) h2 h3) (PI_up i1) ok (fun s H C cl fp => tG_ok (cok_blk c0) (seE (cok_blk c0) n) blk_fn 12 _ _ e3)
          (fun s H C cl fp => tIfs_ok (seT (cok_blk c0) n) e4) (fun s H C cl fp => seE (cok_blk c0) n _ _ e5) (fun x => notSet_f i2)) fun D σ H h => ⟨_, h, fun J H' q D hD => lpc_W (q D hD)⟩)
      · cases q
    · exact tSetLc2_ok c q
  · exact tSetLc2_ok c q
  · cases q
theorem tAssign_ok (c : KOk g lev X N sc W) {n : Nat} {tg v : Expr} {pos : Pos} {t : WX → TS} (q : tAssign g n N sc tg v = some t) : PS X (.Assign [tg] v pos) (t W) := by
  have c0 := c.toCOk
  unfold tAssign at q
  split at q
  · split at q
    · rename_i hb
      split at q
      · rename_i e1 e2 e3
        cases q
        refine PS_imp (ps_fld (PE_up (seE c0 n _ _ e2)) (PE_up (seE c0 n _ _ e3)) ?_) fun D σ H q => ⟨_, q, fun y H1 q => ⟨_, q, fun x H2 q => ?_⟩⟩
        · cases v <;> rfl
        · try dsimp only at q
          split at q
          · split at q
            · rename_i ea
              obtain ⟨k1, k2⟩ := c.gok.ats _ (lookup_mem e1) _ q.1
              rw [c.hK]
              exact ⟨_, _, _, _, rfl, ea, k1, k2, q.2.1, q.2.2⟩
            · exact q.elim
          · exact q.elim
      · cases q
    · cases q
  · split at q
    · rename_i e; cases q; exact tSetLc_ok c e
    · split at q
      · rename_i e; cases q; exact tParS_ok c (seE c0 n) e
      · exact tAsgG_ok c (seE c0 n) q
theorem tBody_ok {f : Stmt → WX → TS} (h : ∀ st, PS X st (f st W)) : ∀ (l : List Stmt), PSs X l (tBody f l W)
  | [] => pss_nil
  | [s] => pss_one (h s)
  | s :: s2 :: r => show PSs X _ (tSeq (f s W) (tBody f (s2 :: r) W)) from pss_cons (h s) (tBody_ok h (s2 :: r))
theorem iopR_ok (c : COk g lev X N sc W) {op : Operator} {r : R2} (h : iopR g.K op = some r) : OpR X (inplaceOp op) r := by
  unfold iopR at h
  rw [← c.hK] at h
  split at h <;> cases h
  · exact r_iadd
  · exact r_isub
theorem aug_ok (c : KOk g lev X N sc W) {n : Nat} {x : Str} {px pos : Pos} {op : Operator} {v : Expr} {k : NameKind} {i : Nat} {r : R2} {tv : WX → TE} (hk : sc.names.lookup x = some k) (hkk : k = .local ∨ k = .cell) (hi : ix? N x = some i) (hr : iopR g.K op = some r) (hv : tE g n N sc v = some tv) :
    PS X (.AugAssign (.Name x px) op v pos) (cAug i (tv W) r) := by
  refine PS_imp (ps_aug (ti := r) c.nd (by rw [c.hN]; exact ix_get hi) ?_ (PE_up (seE c.toCOk n _ _ hv)) (iopR_ok c.toCOk hr) (.inl (c.hfn x))) fun D σ H q => ?_
  · unfold L2.Loc; rw [c.hsc, hk]; rcases hkk with rfl | rfl <;> simp
  · unfold cAug at q
    split at q
    · rename_i x e; exact ⟨x, e, _, q, fun _ _ q => q⟩
    · exact q.elim
theorem fldaug_ok (c : KOk g lev X N sc W) {n : Nat} {o v : Expr} {a : Str} {p pos : Pos} {cs : List Addr} {to tv : WX → TE} (sub : Bool) (h1 : g.ats.lookup a = some cs) (h2 : tE g n N sc o = some to) (h3 : tE g n N sc v = some tv) :
    PS X (.AugAssign (.Attribute o a p) (if sub then .Sub else .Add) v pos) (cFldAug cs a sub (to W) (tv W)) := by
  have c0 := c.toCOk
  have key : ∀ (rd : V → V → Hp → VK → Prop) (hop : InOp X (if sub then .Sub else .Add) rd), (∀ i j H Q, Q (.int (if sub then i - j else i + j)) H → rd (.int i) (.int j) H Q) → PS X (.AugAssign (.Attribute o a p) (if sub then .Sub else .Add) v pos) (cFldAug cs a sub (to W) (tv W)) := fun rd hop hrd => by
    refine PS_imp (ps_fldaug (PE_up (seE c0 n _ _ h2)) (PE_up (seE c0 n _ _ h3)) hop) fun D σ H q => ⟨_, q, fun x H1 q => ?_⟩
    try dsimp only at q
    split at q
    · split at q
      · rename_i ea
        obtain ⟨hC, q⟩ := q
        obtain ⟨k1, k2⟩ := c.gok.ats _ (lookup_mem h1) _ hC
        rw [c.hK]
        split at q
        · rename_i el
          refine ⟨_, _, _, _, _, rfl, ea, k1, k2, el, _, q, fun y H2 q => ?_⟩
          try dsimp only at q
          split at q
          · split at q
            · rename_i eb
              obtain ⟨rfl, hl, q⟩ := q
              exact hrd _ _ _ _ ⟨_, _, eb, hl, q⟩
            · exact q.elim
          · exact q.elim
        · exact q.elim
      · exact q.elim
    · exact q.elim
  cases sub with
  | true => exact key rSub in_sub fun i j H Q q => ⟨i, j, rfl, rfl, q⟩
  | false => exact key rAdd in_add fun i j H Q q => ⟨i, j, rfl, rfl, q⟩
theorem lpw_W {c : TT} {tb : TS} {D : Ends} {σ : St} {H : Hp} (h : ∃ n, lpw c tb D n σ H) : tWhile (upT c) tb D σ H := by
  obtain ⟨n, h⟩ := h
  refine ⟨fun m σ H => lpw c tb D m σ H, ⟨n, h⟩, fun m σ H w => ?_⟩
  cases m with
  | zero => exact w.elim
  | succ m =>
    refine ⟨_, w, fun b H1 q => ?_⟩
    cases b with
    | true => exact iteT ⟨_, fun σ' H' z => ⟨m, Nat.lt_succ_self _, z⟩, by simpa using q⟩
    | false => exact iteF (by simpa using q)
/-- THE READING OF STATEMENTS IS RIGHT -/
theorem tS_ok : ∀ (n : Nat) {X : Cx} {W : WX} (c : KOk g lev X N sc W) (st : Stmt), PS X st (tS g n N sc st W)
  | 0, X, W, c, st => ps_bad
  | n + 1, X, W, c, st => by
    have c0 := c.toCOk
    have ih := fun st => tS_ok n c st
    unfold tS
    split
    · exact ps_pass
    · exact ps_break
    · exact ps_continue
    · split
      · rename_i hn
        refine orBad_ok fun t q => ?_
        obtain ⟨u, hu, rfl⟩ := Option.map_eq_some_iff.mp q
        exact ps_expr (seE c0 n _ _ hu) (notComp_sw hn)
      · exact ps_bad
    · exact ps_retN
    · refine orBad_ok fun t q => ?_
      obtain ⟨u, hu, rfl⟩ := Option.map_eq_some_iff.mp q
      exact ps_ret (seE c0 n _ _ hu)
    · exact orBad_ok fun t q => tAssign_ok c q
    · refine orBad_ok fun t q => ?_
      split at q
      · rename_i e1 e2 e3 e4; cases q; exact aug_ok c e1 (.inl rfl) e2 e3 e4
      · rename_i e1 e2 e3 e4; cases q; exact aug_ok c e1 (.inr rfl) e2 e3 e4
      · cases q
    · refine orBad_ok fun t q => ?_
      split at q
      · rename_i e1 e2 e3; cases q; exact fldaug_ok c false e1 e2 e3
      · cases q
    · refine orBad_ok fun t q => ?_
      split at q
      · rename_i e1 e2 e3; cases q; exact fldaug_ok c true e1 e2 e3
      · cases q
    · split
      · rename_i e; exact ps_if (seT c0 n _ _ e) (tBody_ok ih _) (tBody_ok ih _)
      · exact ps_bad
    · split
      · rename_i e
        exact PS_imp (ps_while c.hp (PT_up (seT c0 n _ _ e)) (tBody_ok ih _)) fun D σ H q => lpw_W q
      · exact ps_bad
    · split
      · rename_i e1 e2
        obtain ⟨i1, i2⟩ := tI_ok c0 (seE c0 n) e1
        refine ps_orLock (PS_imp (ps_for c.hp c.calm (PI_up i1) (tG_ok c0 (seE c0 n) (fun x _ => c.hfn x) 12 _ _ e2) (tBody_ok ih _) (fun x => notSet_f i2)) fun D σ H q => ⟨_, q, fun J H1 q => lp_W q⟩)
      · exact ps_bad
    · exact orBad_ok fun t q => tRaise_ok c (seE c0 n) q
    · rw [← c.hK]
      exact ps_tryW c.stk c.fr c.nd c.tk (fun W' pn xe tk' hp' => tBody_ok (fun st => tS_ok n (c.tr tk' hp') st) _) (tCl_ok c0.b _)
    · exact ps_bad
end
end WR

set_option Elab.async false
set_option linter.all false
set_option maxRecDepth 100000
set_option maxHeartbeats 4000000
namespace WR
open PySem PySem.Spec PyProof.Rows L2

/-! ## defs keep the reading of their bodies -/
/-- a def of the text: its statement, all its names (parameters first), its parameters -/
structure Df where
  at_ : Str × Option Str
  name : Str
  qual : Str
  st : Stmt
  N : List Str
  P : List Str
  dfl : List He.Dv := []
  kwd : List (Str × He.Dv) := []
  hot : Bool := false   -- read as it runs while an exception is handled
def Df.d (d : Df) : He.DefD := ⟨d.at_, d.name, d.qual, defArgs d.st, defBody d.st, defScope d.st, d.dfl, d.kwd⟩
/-- what a def does: its body's reading, the table g behind it -/
def wpDf (g : G) (m : Nat) (d : Df) : Sp := fun vs H Q E => vs.length = d.P.length ∧
  (if d.hot = true then sBody (hS g d.N (defScope d.st) none m) (defBody d.st) { nx := fun _ H' => Q .non H', rt := Q } (start d.N vs) H
  else tBody (tS g m d.N (defScope d.st)) (defBody d.st) (fun cls dd _ H => E cls dd H) { nx := fun _ H' => Q .non H', rt := Q } (start d.N vs) H)
section
variable {P : Program} {w : World} {mg : Str → Option Value} {base : Heap} {g : G} {lev : Nat}
theorem df_ofH {dvs : List V} {kws : List (Str × V)} {x qual : Str} {d : Df} {f : Addr} {fd : FuncData} (hh : d.hot = true) (F : FunD g.K x qual (defArgs d.st) (defBody d.st) (defScope d.st) dvs kws f fd) (S : FnScope d.N d.P (defScope d.st)) (ok : GOk g P w mg base lev) (m : Nat) :
    FnHW P w g.K mg base (L2.CX P w) (lev + 3) f fd d.P (wpDf g m d) := by
  refine fnHW_of (k := lev + 2) F S (fun vs H Q E h => h.1) fun cdv A outer s H vs Q E hr gd h => ?_
  obtain ⟨_, h⟩ := h
  rw [if_pos hh] at h
  have c : HOkc g (cxW (L2.CX P w) P w g.K mg base d.N qual (defScope d.st) f cdv A outer s H E) d.N (defScope d.st) none := {
    gok := ⟨lev, ok⟩, hK := rfl, hN := rfl, hsc := rfl, nd := S.nd, gd := gd, un := by have := hr.un; show (A.deeper _).units + 200 < cLine; omega, room := ⟨lev, ok, hr.mono (Nat.le_add_right lev 2)⟩, xok := (fun i hi => nomatch hi), xis := (fun i hi => nomatch hi) }
  exact ⟨_, sBody_ok (fun st => hS_ok c m st) _, h⟩
theorem df_of {params : Arguments} {dvs : List V} {kws : List (Str × V)} {x qual : Str} {d : Df} {f : Addr} {fd : FuncData} (F : FunD g.K x qual (defArgs d.st) (defBody d.st) (defScope d.st) dvs kws f fd) (S : FnScope d.N d.P (defScope d.st)) (ok : GOk g P w mg base lev) (m : Nat) :
    FnW P w g.K mg base (L2.CX P w) (lev + 3) f fd d.P (wpDf g m d) := by
  cases hh : d.hot with
  | true => exact (df_ofH hh F S ok m).w
  | false =>
    refine fnW_of (k := lev + 2) F S (fun vs H Q E h => h.1) fun cdv A outer s H vs Q E hr gd h => ?_
    obtain ⟨_, h⟩ := h
    rw [hh, if_neg Bool.false_ne_true] at h
    have c : KOk g lev (cxOf (L2.CX P w) P w g.K mg base d.N qual (defScope d.st) f cdv A outer s H E) d.N (defScope d.st) (fun cls dd _ H => E cls dd H) := {
      gok := ok, hK := rfl, hN := rfl, hsc := rfl, nd := S.nd, calm := rfl, tk := takes_of rfl rfl rfl rfl, room := hr.mono (Nat.le_succ _), gd := gd, room2 := hr.mono (Nat.le_add_left 2 lev), hp := passes_of rfl, stk := rfl, fr := rfl, hfn := fun _ => rfl, kind := S.kind }
    exact ⟨_, tBody_ok (fun st => tS_ok m c st) _, h⟩
end

/-! ## the table at each depth -/
/-- a call pattern: the def's name, how many values are written, the keywords, the order -/
structure Cp where
  name : Str
  n : Nat
  ks : List Str
  arr : List V → List V → List V
structure Cm where
  cls : Addr
  name : Str
  n : Nat
  ks : List Str
  arr : List V → List V → List V
  df : Str
structure Ck where
  name : Str
  cls : Addr
  n : Nat
  ks : List Str
  arr : List V → List V → List V
  df : Str
structure Tb where
  K : PySem.W.Frag
  cps : List Cp
  cons : List (Str × V)
  blt : List Str
  cms : List Cm
  cks : List Ck
  ats : List (Str × List Addr)
  nes : List (Str × Addr)
  xcs : List XcI := []
  tps : List (Str × List V) := []
  hcs : List (Str × Cp) := []   -- what suites call: the key of the def that is read so, the pattern
/-- the table, the defs promising S -/
def gOf (t : Tb) (S : Str → Sp) : G where
  K := t.K
  fns := t.cps.map fun c => ⟨c.name, c.n, c.ks, c.arr, S c.name⟩
  cons := t.cons
  blt := t.blt
  mts := t.cms.map fun c => ⟨c.cls, c.name, c.n, c.ks, c.arr, S c.df⟩
  mks := t.cks.map fun c => ⟨c.name, c.cls, c.n, c.ks, c.arr, S c.df⟩
  ats := t.ats
  nes := t.nes
  xcs := t.xcs
  tps := t.tps
  hfs := t.hcs.map fun c => ⟨c.2.name, c.2.n, c.2.ks, c.2.arr, S c.1⟩
/-- the promises of all defs, n calls deep -/
def spAt (t : Tb) (m : Nat) (ds : List (Str × Df)) : Nat → Str → Sp
  | 0 => fun _ _ _ _ _ => False
  | n + 1 => fun x => match ds.lookup x with
    | some d => wpDf (gOf t (spAt t m ds n)) m d
    | none => fun _ _ _ _ => False
theorem spAt_succ {t : Tb} {m : Nat} {ds : List (Str × Df)} {n : Nat} {x : Str} {d : Df} (h : ds.lookup x = some d) : spAt t m ds (n + 1) x = wpDf (gOf t (spAt t m ds n)) m d := by
  show (match ds.lookup x with | some d => wpDf (gOf t (spAt t m ds n)) m d | none => fun _ _ _ _ => False) = _
  rw [h]

/-- a promise that is never kept is any def's -/
theorem fnW_false {P : Program} {w : World} {K : PySem.W.Frag} {mg : Str → Option Value} {base : Heap} {k : Nat} {f : Addr} {fd : FuncData} {ps : List Str} : FnW P w K mg base (L2.CX P w) k f fd ps (fun _ _ _ _ => False) := FnW.false_

/-- what the top has written: facts that are independent of the promises. fa, fd: where each def stands -/
structure TOk (t : Tb) (ds : List (Str × Df)) (mg : Str → Option Value) (fa : Str → Addr) (fd : Str → FuncData) : Prop where
  fun_ : ∀ p ∈ ds, FnScope p.2.N p.2.P (defScope p.2.st) ∧ ∃ x qual dvs kws, FunD t.K x qual (defArgs p.2.st) (defBody p.2.st) (defScope p.2.st) dvs kws (fa p.1) (fd p.1)
  cps : ∀ c ∈ t.cps, mg c.name = some (.ref (fa c.name)) ∧ PySem.W.keepIn t.K (.ref (fa c.name)) = true ∧ ∃ d gf, ds.lookup c.name = some d ∧ KBn t.K (fd c.name) d.P c.n c.ks gf c.arr
  cons : ∀ p ∈ t.cons, ∃ u, mg p.1 = some u ∧ RelV p.2 u
  blt : ∀ x ∈ t.blt, mg x = none
  cms : ∀ m ∈ t.cms, Cls t.K m.cls ∧ Meth t.K m.cls m.name (fa m.df) ∧ ∃ d gf, ds.lookup m.df = some d ∧ KBn t.K (fd m.df) d.P (m.n + 1) m.ks gf (fun vs zs => match vs with | v :: r => v :: m.arr r zs | [] => [])
  cks : ∀ m ∈ t.cks, mg m.name = some (.ref m.cls) ∧ Mk t.K m.cls (fa m.df) ∧ ∃ d gf, ds.lookup m.df = some d ∧ KBn t.K (fd m.df) d.P (m.n + 1) m.ks gf (fun vs zs => match vs with | v :: r => v :: m.arr r zs | [] => [])
  ats : ∀ p ∈ t.ats, ∀ C ∈ p.2, Cls t.K C ∧ NoAttr t.K C p.1
  nes : ∀ p ∈ t.nes, ownB t.K p.2 = true
  nec : ∀ p ∈ t.nes, Cls t.K p.2
  sys : sysB t.K = true
  xcs : ∀ x ∈ t.xcs, ∃ b fI fd px, mg x.name = some (.ref x.C) ∧ XcC t.K b x.C ∧ XfC t.K x.C ∧ PySem.W.findIn t.K (.ref x.C) x.f = some none ∧ PySem.W.findIn t.K (.ref x.C) "__init__" = some (some (.ref fI)) ∧
    PySem.W.typeIn t.K (.ref fI) = some (.type "function") ∧ (∀ (P : Program) (w : World) (base : Heap), FnOk P w t.K mg base (L2.CX P w) 1 fI fd ["self", px] (spX b t.K x.f)) ∧ Binds t.K fd ["self", px] []
  tps : ∀ p ∈ t.tps, ∃ a, mg p.1 = some (.ref a) ∧ kobj t.K a = some (.tup p.2) ∧ tupB t.K a = true
  hcs : ∀ c ∈ t.hcs, mg c.2.name = some (.ref (fa c.1)) ∧ PySem.W.keepIn t.K (.ref (fa c.1)) = true ∧ ∃ d gf, ds.lookup c.1 = some d ∧ d.hot = true ∧ KBn t.K (fd c.1) d.P c.2.n c.2.ks gf c.2.arr
section
variable {P : Program} {w : World} {t : Tb} {m : Nat} {ds : List (Str × Df)} {mg : Str → Option Value} {base : Heap} {fa : Str → Addr} {fd : Str → FuncData}
theorem spAt_okH (T : TOk t ds mg fa fd) : ∀ (n : Nat) (x : Str) (d : Df), ds.lookup x = some d → FnW P w t.K mg base (L2.CX P w) (3 * n) (fa x) (fd x) d.P (spAt t m ds n x) ∧ (d.hot = true → FnHW P w t.K mg base (L2.CX P w) (3 * n) (fa x) (fd x) d.P (spAt t m ds n x))
  | 0, x, d, h => ⟨fnW_false, fun _ => FnHW.false_⟩
  | n + 1, x, d, h => by
    have G : GOk (gOf t (spAt t m ds n)) P w mg base (3 * n) := by
      refine ⟨fun f hf => ?_, T.cons, T.blt, fun f hf => ?_, fun f hf => ?_, T.ats, T.nes, T.nec, T.sys, fun x hx => ?_, T.tps, fun f hf => ?_⟩
      · obtain ⟨c, hc, rfl⟩ := List.mem_map.mp hf
        obtain ⟨h1, h2, d', gf, h3, h4⟩ := T.cps c hc
        exact ⟨fa c.name, fd c.name, d'.P, gf, h1, h2, (spAt_okH T n _ _ h3).1, h4⟩
      · obtain ⟨c, hc, rfl⟩ := List.mem_map.mp hf
        obtain ⟨h1, h2, d', gf, h3, h4⟩ := T.cms c hc
        exact ⟨fa c.df, fd c.df, d'.P, gf, h1, h2, (spAt_okH T n _ _ h3).1, h4⟩
      · obtain ⟨c, hc, rfl⟩ := List.mem_map.mp hf
        obtain ⟨h1, h2, d', gf, h3, h4⟩ := T.cks c hc
        exact ⟨fa c.df, fd c.df, d'.P, gf, h1, h2, (spAt_okH T n _ _ h3).1, h4⟩
      · obtain ⟨b, fI, fd, px, m1, m2, m3, m4, m5, m6, m7, m8⟩ := T.xcs x hx
        exact ⟨b, fI, fd, px, m1, m2, m3, m4, m5, m6, m7 P w base, m8⟩
      · obtain ⟨c, hc, rfl⟩ := List.mem_map.mp hf
        obtain ⟨h1, h2, d', gf, h3, hh, h4⟩ := T.hcs c hc
        exact ⟨fa c.1, fd c.1, d'.P, gf, h1, h2, (spAt_okH T n _ _ h3).2 hh, h4⟩
    rw [spAt_succ h]
    obtain ⟨S, _, _, _, _, F⟩ := T.fun_ (x, d) (PySem.mem_of_lookup h)
    exact ⟨df_of (params := defArgs d.st) F S G m, fun hh => df_ofH hh F S G m⟩
theorem spAt_ok (T : TOk t ds mg fa fd) (n : Nat) (x : Str) (d : Df) (h : ds.lookup x = some d) : FnW P w t.K mg base (L2.CX P w) (3 * n) (fa x) (fd x) d.P (spAt t m ds n x) := (spAt_okH T n x d h).1
end
theorem wpDf_ok {g : G} {m : Nat} {d : Df} {vs : List V} {H : Hp} {Q : VK} {E : XK} (hh : d.hot = false) (hl : vs.length = d.P.length) (h : tBody (tS g m d.N (defScope d.st)) (defBody d.st) (fun cls dd _ H => E cls dd H) { nx := fun _ H' => Q .non H', rt := Q } (start d.N vs) H) : wpDf g m d vs H Q E := by
  refine ⟨hl, ?_⟩
  rw [hh, if_neg Bool.false_ne_true]
  exact h
theorem wpDf_okH {g : G} {m : Nat} {d : Df} {vs : List V} {H : Hp} {Q : VK} {E : XK} (hh : d.hot = true) (hl : vs.length = d.P.length) (h : sBody (hS g d.N (defScope d.st) none m) (defBody d.st) { nx := fun _ H' => Q .non H', rt := Q } (start d.N vs) H) : wpDf g m d vs H Q E := by
  refine ⟨hl, ?_⟩
  rw [hh, if_pos rfl]
  exact h
end WR

set_option Elab.async false
set_option linter.all false
set_option maxRecDepth 100000
set_option maxHeartbeats 4000000
namespace WR
open PySem PySem.Spec PyProof.Rows L2

/-! ## the text in symbols: no address -/
structure Ym where   -- a method's call pattern
  cls : Str
  name : Str
  n : Nat
  ks : List Str := []
  arr : List V → List V → List V := fun vs _ => vs
/-- an own exception class that is raised: its base (B.__init__), the field, the parameter, its __init__ -/
structure Yx where
  name : Str
  b : WRX.XB
  base : Str
  f : Str
  px : Str
  df : Df
structure Sy where
  ds : List (Str × Df)
  cps : List Cp
  nums : List (Str × Int) := []
  txts : List (Str × Str) := []
  blt : List Str := []
  cms : List Ym := []
  cks : List Ym := []     -- name unused: __init__
  cls : List Str := []
  ats : List (Str × List Str) := []
  nes : List Str := []
  ex : PySem.W.Frag → Bool := fun _ => true
  xcs : List Yx := []
  xcl : List Str := []    -- exception classes that are named
  tps : List (Str × List V) := []   -- tuples of the top
  hcs : List (Str × Cp) := []   -- what suites call
def mkey (c m : Str) : Str := c ++ "." ++ m
def Sy.tb (y : Sy) (K : PySem.W.Frag) : Tb where
  K := K
  cps := y.cps
  cons := y.nums.map (fun p => (p.1, V.int p.2)) ++ y.txts.map (fun p => (p.1, V.str p.2)) ++ (y.cls.map (fun c => (c, V.ref (He.ga K c))) ++ y.xcl.map (fun c => (c, V.ref (He.ga K c))))
  blt := y.blt
  cms := y.cms.map fun m => ⟨He.ga K m.cls, m.name, m.n, m.ks, m.arr, mkey m.cls m.name⟩
  cks := y.cks.map fun m => ⟨m.cls, He.ga K m.cls, m.n, m.ks, m.arr, mkey m.cls "__init__"⟩
  ats := y.ats.map fun p => (p.1, p.2.map (He.ga K))
  nes := y.nes.map fun c => (c, He.ga K c)
  xcs := y.xcs.map fun x => ⟨x.name, He.ga K x.name, x.f⟩
  tps := y.tps
  hcs := y.hcs
def tpB (K : PySem.W.Frag) (p : Str × List V) : Bool := (He.Fa.glo p.1).ok K && (tupB K (He.ga K p.1) && (match kobj K (He.ga K p.1) with
  | some (.tup xs) => decide (xs = p.2)
  | _ => false))
/-- what is asked of the written part beyond the facts -/
def yxB (K : PySem.W.Frag) (x : Yx) : Bool := (He.Fa.glo x.name).ok K && ((He.Fa.glo x.base).ok K && (xcB K x.b (He.ga K x.name) && (xfB K (He.ga K x.name) && (xpB K x.b (He.ga K x.base) && (decide (PySem.W.findIn K (.ref (He.ga K x.name)) x.f = some none) &&
  (decide (PySem.W.findIn K (.ref (He.ga K x.name)) "__init__" = some (some (.ref (He.fAd K x.df.at_)))) && decide (PySem.W.typeIn K (.ref (He.fAd K x.df.at_)) = some (.type "function"))))))))
def Sy.exB (y : Sy) (K : PySem.W.Frag) : Bool := (y.nes.all fun c => ownB K (He.ga K c)) && ((y.ex K && (y.xcs.all (yxB K) && (y.xcl.all (fun c => (He.Fa.glo c).ok K) && y.tps.all (tpB K)))) && sysB K)
def Sy.fa (y : Sy) : List He.Fa :=
  y.cps.map (fun c => .glo c.name) ++ (y.cls.map (fun c => .glo c) ++ (y.blt.map (fun x => .free x) ++ (y.nums.map (fun p => .int p.1 p.2) ++ (y.txts.map (fun p => .str p.1 p.2) ++
  (y.cls.map (fun c => .cls c) ++ (y.cms.map (fun m => .meth m.cls m.name) ++ (y.cks.map (fun m => .mkr m.cls) ++ y.ats.flatMap fun p => p.2.map fun c => .noat c p.1)))))))
def Sy.fn (y : Sy) : List He.DefD := (y.ds.map fun p => p.2.d) ++ y.xcs.map fun x => x.df.d
/-- a call pattern binds as it is told -/
def Kb (d : Df) (n : Nat) (ks : List Str) (arr : List V → List V → List V) : Prop :=
  ∀ K f fd, FunD K d.name d.qual (defArgs d.st) (defBody d.st) (defScope d.st) (d.d.dvs K) (d.d.kws K) f fd → ∃ gf, KBn K fd d.P n ks gf arr
def scB (d : Df) : Bool := decide ((defScope d.st).kind = .function) && (!(defScope d.st).isCoroutine && (!(defScope d.st).isGenerator && (decide d.N.Nodup && (decide (d.N.take d.P.length = d.P) &&
  (d.P.all (fun x => decide ((defScope d.st).names.lookup x = some .local ∨ (defScope d.st).names.lookup x = some .cell)) && (defScope d.st).names.all fun y => decide (y.2 ≠ .free))))))
theorem scB_ok {d : Df} (h : scB d = true) : FnScope d.N d.P (defScope d.st) := by
  unfold scB at h
  simp only [Bool.and_eq_true, Bool.not_eq_true', decide_eq_true_eq, List.all_eq_true] at h
  obtain ⟨h1, h2, h3, h4, h5, h6, h7⟩ := h
  exact ⟨h1, h2, h3, h4, h5, h6, h7⟩
structure XyOk (x : Yx) : Prop where
  dfl : x.df.dfl = []
  P : x.df.P = [("self" : Str), x.px]
  N : x.df.N = [("self" : Str), x.px]
  sc : scB x.df = true
  bd : xBody (defBody x.df.st) = some (x.base, x.f, x.px)
  pl : plainName x.px = true
  pb : plainName x.base = true
  gl : (defScope x.df.st).names.lookup x.base = some .globalImplicit
  bind : ∀ (kV doc pm : Value) (an : Option Addr) (cdv ct : Value) (us : List Value), us.length = x.df.P.length → bindArgs (PySem.W.fnOf x.df.name x.df.qual (defArgs x.df.st) (defBody x.df.st) (defScope x.df.st) .none kV doc pm an cdv ct) ⟨us, []⟩ = pure (x.df.P.zip us)
structure SyOk (y : Sy) : Prop where
  xcs : ∀ x ∈ y.xcs, XyOk x := by intro x h; cases h
  sc : (y.ds.all fun p => scB p.2) = true
  cps : ∀ c ∈ y.cps, ∃ d, y.ds.lookup c.name = some d ∧ d.at_ = (c.name, none) ∧ Kb d c.n c.ks c.arr
  cms : ∀ m ∈ y.cms, m.cls ∈ y.cls ∧ ∃ d, y.ds.lookup (mkey m.cls m.name) = some d ∧ d.at_ = (m.cls, some m.name) ∧ Kb d (m.n + 1) m.ks (fun vs zs => match vs with | v :: r => v :: m.arr r zs | [] => [])
  cks : ∀ m ∈ y.cks, m.cls ∈ y.cls ∧ ∃ d, y.ds.lookup (mkey m.cls "__init__") = some d ∧ d.at_ = (m.cls, some ("__init__" : Str)) ∧ Kb d (m.n + 1) m.ks (fun vs zs => match vs with | v :: r => v :: m.arr r zs | [] => [])
  ats : ∀ p ∈ y.ats, ∀ c ∈ p.2, c ∈ y.cls
  nes : ∀ c ∈ y.nes, c ∈ y.cls
  hcs : ∀ c ∈ y.hcs, (c.2.name ∈ y.cps.map (·.name)) ∧ ∃ d, y.ds.lookup c.1 = some d ∧ d.hot = true ∧ d.at_ = (c.2.name, none) ∧ Kb d c.2.n c.2.ks c.2.arr := by intro c h; cases h

/-! ### binding -/
section
variable {d : Df} {n : Nat} {ks : List Str} {arr arr' : List V → List V → List V}
theorem Kb.congr (h : Kb d n ks arr) (e : ∀ vs zs, arr' vs zs = arr vs zs) : Kb d n ks arr' := fun K f fd F => by
  obtain ⟨gf, k⟩ := h K f fd F
  have : arr' = arr := funext fun vs => funext fun zs => e vs zs
  exact ⟨gf, this ▸ k⟩
/-- every parameter written, no defaults -/
theorem kb_plain (hd : d.dfl = []) (h : ∀ (kV doc pm : Value) (an : Option Addr) (cdv ct : Value) (us : List Value), us.length = d.P.length → bindArgs (PySem.W.fnOf d.name d.qual (defArgs d.st) (defBody d.st) (defScope d.st) .none kV doc pm an cdv ct) ⟨us, []⟩ = pure (d.P.zip us)) :
    Kb d d.P.length [] (fun vs _ => vs) := fun K f fd F => by
  have F' : FunD K d.name d.qual (defArgs d.st) (defBody d.st) (defScope d.st) [] (d.d.kws K) f fd := by
    have : d.d.dvs K = [] := by unfold He.DefD.dvs Df.d; rw [hd]; rfl
    rw [this] at F; exact F
  exact ⟨fun us _ => us, ⟨fun s us ws X l1 l2 => F'.bindsA h s us l1, fun r1 r2 => r1⟩⟩
/-- keyword-only ones written, no defaults -/
theorem kb_kwM (hd : d.dfl = []) (h : ∀ (kV doc pm : Value) (an : Option Addr) (cdv ct u : Value) (us ws : List Value), us.length = n → ws.length = ks.length → bindArgs (PySem.W.fnOf d.name d.qual (defArgs d.st) (defBody d.st) (defScope d.st) .none kV doc pm an cdv ct) ⟨u :: us, ks.zip ws⟩ = pure (d.P.zip (u :: (us ++ ws)))) :
    Kb d (n + 1) ks (fun vs zs => match vs with | v :: r => v :: (fun vs zs => vs ++ zs) r zs | [] => []) := fun K f fd F => by
  have F' : FunD K d.name d.qual (defArgs d.st) (defBody d.st) (defScope d.st) [] (d.d.kws K) f fd := by
    have : d.d.dvs K = [] := by unfold He.DefD.dvs Df.d; rw [hd]; rfl
    rw [this] at F; exact F
  obtain ⟨oc, od, dV, kV, doc, pm, an, cdv, ct, osl, rfl, lk, hcd, hD, hK⟩ := F'.ex
  rcases hD with ⟨_, rfl⟩ | ⟨e, _⟩
  · refine ⟨fun us ws => match us with | u :: r => u :: (r ++ ws) | [] => [], ⟨fun s us ws X l1 l2 => ?_, fun {vs us zs ws} r1 r2 => ?_⟩⟩
    · cases us with
      | nil => cases l1
      | cons u us =>
        refine BindsTo.of_looks fun M => ?_
        rw [h kV doc pm an cdv ct u us ws (by simpa using l1) l2]
        exact PySem.W.Looks.of_pure rfl
    · cases r1 with
      | nil => exact .nil
      | cons a b => exact .cons a (Vals.append b r2)
  · exact absurd rfl e
/-- all positional ones written, the keyword-only ones by their defaults -/
theorem kb_kwD (kws : List (Str × V)) (hd : d.dfl = []) (hv : ∀ K, d.d.kws K = kws) (hk : kws ≠ []) (hn : (n + 1) + kws.length = d.P.length)
    (h : ∀ (D : Addr) (doc pm : Value) (an : Option Addr) (cdv ct : Value) (us zs : List Value), us.length = n + 1 → zs.length = kws.length →
      KwChain D ((kws.map (·.1)).zip zs) (bindArgs (PySem.W.fnOf d.name d.qual (defArgs d.st) (defBody d.st) (defScope d.st) .none (.ref D) doc pm an cdv ct) ⟨us, []⟩) (d.P.zip (us ++ zs))) :
    Kb d (n + 1) [] (fun vs zs => match vs with | v :: r => v :: (fun vs _ => vs ++ kws.map (·.2)) r zs | [] => []) := fun K f fd F => by
  have F' : FunD K d.name d.qual (defArgs d.st) (defBody d.st) (defScope d.st) [] kws f fd := by
    have : d.d.dvs K = [] := by unfold He.DefD.dvs Df.d; rw [hd]; rfl
    rw [this, hv K] at F; exact F
  obtain ⟨ds, r, b⟩ := F'.binds0 (n + 1) hk hn h
  refine ⟨fun us _ => match us with | u :: r => u :: (r ++ ds) | [] => [], ⟨fun s us ws X l1 l2 => ?_, fun {vs us zs ws} r1 r2 => ?_⟩⟩
  · cases ws with
    | cons w ws => cases l2
    | nil =>
      have z := b s us X (by rw [List.length_append, l1, ← r.length, List.length_map, hn])
      cases us with
      | nil => cases l1
      | cons u us => exact z
  · cases r1 with
    | nil => exact .nil
    | cons a z => exact .cons a (Vals.append z r)
/-- of a def: keyword-only ones written, no defaults -/
theorem kb_kwF (hd : d.dfl = []) (h : ∀ (kV doc pm : Value) (an : Option Addr) (cdv ct : Value) (us ws : List Value), us.length = n → ws.length = ks.length → bindArgs (PySem.W.fnOf d.name d.qual (defArgs d.st) (defBody d.st) (defScope d.st) .none kV doc pm an cdv ct) ⟨us, ks.zip ws⟩ = pure (d.P.zip (us ++ ws))) :
    Kb d n ks (fun vs zs => vs ++ zs) := fun K f fd F => by
  have F' : FunD K d.name d.qual (defArgs d.st) (defBody d.st) (defScope d.st) [] (d.d.kws K) f fd := by
    have : d.d.dvs K = [] := by unfold He.DefD.dvs Df.d; rw [hd]; rfl
    rw [this] at F; exact F
  obtain ⟨oc, od, dV, kV, doc, pm, an, cdv, ct, osl, rfl, lk, hcd, hD, hK⟩ := F'.ex
  rcases hD with ⟨_, rfl⟩ | ⟨e, _⟩
  · refine ⟨fun us ws => us ++ ws, ⟨fun s us ws X l1 l2 => ?_, fun {vs us zs ws} r1 r2 => Vals.append r1 r2⟩⟩
    refine BindsTo.of_looks fun M => ?_
    rw [h kV doc pm an cdv ct us ws l1 l2]
    exact PySem.W.Looks.of_pure rfl
  · exact absurd rfl e
/-- of a def: the keyword-only ones by their defaults -/
theorem kb_kwDF (kws : List (Str × V)) (hd : d.dfl = []) (hv : ∀ K, d.d.kws K = kws) (hk : kws ≠ []) (hn : n + kws.length = d.P.length)
    (h : ∀ (D : Addr) (doc pm : Value) (an : Option Addr) (cdv ct : Value) (us zs : List Value), us.length = n → zs.length = kws.length →
      KwChain D ((kws.map (·.1)).zip zs) (bindArgs (PySem.W.fnOf d.name d.qual (defArgs d.st) (defBody d.st) (defScope d.st) .none (.ref D) doc pm an cdv ct) ⟨us, []⟩) (d.P.zip (us ++ zs))) :
    Kb d n [] (fun vs _ => vs ++ kws.map (·.2)) := fun K f fd F => by
  have F' : FunD K d.name d.qual (defArgs d.st) (defBody d.st) (defScope d.st) [] kws f fd := by
    have : d.d.dvs K = [] := by unfold He.DefD.dvs Df.d; rw [hd]; rfl
    rw [this, hv K] at F; exact F
  obtain ⟨ds, r, b⟩ := F'.binds0 n hk hn h
  refine ⟨fun us _ => us ++ ds, ⟨fun s us ws X l1 l2 => ?_, fun {vs us zs ws} r1 r2 => Vals.append r1 r⟩⟩
  cases ws with
  | cons w ws => cases l2
  | nil => exact b s us X (by rw [List.length_append, l1, ← r.length, List.length_map, hn])
/-- every parameter written, by place or by name, in any order: idx tells which of the written ones each parameter takes -/
theorem vals_getD {vs : List V} {us : List Value} (r : Vals vs us) (i : Nat) : RelV (vs.getD i .non) (us.getD i .none) := by
  rw [List.getD_eq_getElem?_getD, List.getD_eq_getElem?_getD]
  cases e : vs[i]? with
  | some v =>
    obtain ⟨u, hu, rv⟩ := r.get e
    rw [hu]; exact rv
  | none =>
    have : us[i]? = none := by
      rw [List.getElem?_eq_none_iff] at e ⊢
      rw [← r.length]; exact e
    rw [this]; rfl
theorem vals_pick {vs : List V} {us : List Value} (r : Vals vs us) : ∀ idx : List Nat, Vals (idx.map fun i => vs.getD i .non) (idx.map fun i => us.getD i .none)
  | [] => .nil
  | i :: idx => .cons (vals_getD r i) (vals_pick r idx)
theorem kb_permM (idx : List Nat) (hd : d.dfl = []) (h : ∀ (kV doc pm : Value) (an : Option Addr) (cdv ct u : Value) (us ws : List Value), us.length = n → ws.length = ks.length → bindArgs (PySem.W.fnOf d.name d.qual (defArgs d.st) (defBody d.st) (defScope d.st) .none kV doc pm an cdv ct) ⟨u :: us, ks.zip ws⟩ = pure (d.P.zip (u :: idx.map fun i => (us ++ ws).getD i .none))) :
    Kb d (n + 1) ks (fun vs zs => match vs with | v :: r => v :: (fun vs zs => idx.map fun i => (vs ++ zs).getD i V.non) r zs | [] => []) := fun K f fd F => by
  have F' : FunD K d.name d.qual (defArgs d.st) (defBody d.st) (defScope d.st) [] (d.d.kws K) f fd := by
    have : d.d.dvs K = [] := by unfold He.DefD.dvs Df.d; rw [hd]; rfl
    rw [this] at F; exact F
  obtain ⟨oc, od, dV, kV, doc, pm, an, cdv, ct, osl, rfl, lk, hcd, hD, hK⟩ := F'.ex
  rcases hD with ⟨_, rfl⟩ | ⟨e, _⟩
  · refine ⟨fun us ws => match us with | u :: r => u :: idx.map (fun i => (r ++ ws).getD i Value.none) | [] => [], ⟨fun s us ws X l1 l2 => ?_, fun {vs us zs ws} r1 r2 => ?_⟩⟩
    · cases us with
      | nil => cases l1
      | cons u us =>
        refine BindsTo.of_looks fun M => ?_
        rw [h kV doc pm an cdv ct u us ws (by simpa using l1) l2]
        exact PySem.W.Looks.of_pure rfl
    · cases r1 with
      | nil => exact .nil
      | cons a b => exact .cons a (vals_pick (Vals.append b r2) idx)
  · exact absurd rfl e
theorem kb_plainM (hd : d.dfl = []) (hp : d.P.length = n + 1) (h : ∀ (kV doc pm : Value) (an : Option Addr) (cdv ct : Value) (us : List Value), us.length = d.P.length → bindArgs (PySem.W.fnOf d.name d.qual (defArgs d.st) (defBody d.st) (defScope d.st) .none kV doc pm an cdv ct) ⟨us, []⟩ = pure (d.P.zip us)) :
    Kb d (n + 1) [] (fun vs zs => match vs with | v :: r => v :: (fun vs _ => vs) r zs | [] => []) := by
  have k := kb_plain hd h
  rw [hp] at k
  exact k.congr fun vs zs => by cases vs <;> rfl
/-- positional defaults: the first j of all are written over -/
theorem kb_dfl (m j : Nat) (dvs : List V) (hv : ∀ K, d.d.dvs K = dvs) (hne : dvs ≠ []) (hn : m + (dvs.length - j) = d.P.length)
    (h : ∀ (T : Addr) (kV doc pm : Value) (an : Option Addr) (cdv ct : Value) (us its : List Value), us.length = m → its.length = dvs.length →
      ∃ k, bindArgs (PySem.W.fnOf d.name d.qual (defArgs d.st) (defBody d.st) (defScope d.st) (.ref T) kV doc pm an cdv ct) ⟨us, []⟩ = seqItems? (.ref T) >>= k ∧ k (some its.toArray) = pure (d.P.zip (us ++ its.drop j))) :
    Kb d m [] (fun vs _ => vs ++ dvs.drop j) := fun K f fd F => by
  rw [hv K] at F
  obtain ⟨ds, r, b⟩ := F.binds1 m j hne hn h
  refine ⟨fun us _ => us ++ ds, ⟨fun s us ws X l1 l2 => ?_, fun r1 r2 => r1.append r⟩⟩
  exact b s us X (by rw [List.length_append, l1, ← r.length, List.length_drop, hn])
end

/-! ### the table of a written part -/
/-- where the def of a key stands -/
def Sy.ad (y : Sy) (K : PySem.W.Frag) (x : Str) : Addr := match y.ds.lookup x with
  | some d => He.fAd K d.at_
  | none => 0
theorem Sy.ad_of {y : Sy} {K : PySem.W.Frag} {x : Str} {d : Df} (h : y.ds.lookup x = some d) : y.ad K x = He.fAd K d.at_ := by
  unfold Sy.ad; rw [h]
section
variable {y : Sy} {K : PySem.W.Frag} {h : Heap} {mg : Str → Option Value}
theorem sy_tok (O : SyOk y) (X : K.In h) (G : h.Ns mainGlobals mg) (c : He.SaysD y.fa y.fn K) (nd : (y.ds.map (·.1)).Nodup) (he : y.exB K = true) : ∃ fd : Str → FuncData, TOk (y.tb K) y.ds mg (y.ad K) fd ∧ ∀ p ∈ y.ds, FunD K p.2.name p.2.qual (defArgs p.2.st) (defBody p.2.st) (defScope p.2.st) (p.2.d.dvs K) (p.2.d.kws K) (y.ad K p.1) (fd p.1) := by
  have hf : ∀ x : Str, ∃ fd : FuncData, ∀ d, y.ds.lookup x = some d → FunD K d.name d.qual (defArgs d.st) (defBody d.st) (defScope d.st) (d.d.dvs K) (d.d.kws K) (y.ad K x) fd := fun x => by
    cases e : y.ds.lookup x with
    | none => exact ⟨default, fun d z => nomatch z⟩
    | some d =>
      obtain ⟨fd, F⟩ := c.defs (d := d.d) (List.mem_append_left _ (List.mem_map.mpr ⟨(x, d), PySem.mem_of_lookup e, rfl⟩))
      refine ⟨fd, fun d' z => ?_⟩
      cases z
      rw [Sy.ad_of e]
      exact F
  have lk : ∀ p ∈ y.ds, y.ds.lookup p.1 = some p.2 := fun p hp => by
    have aux : ∀ l : List (Str × Df), (l.map (·.1)).Nodup → p ∈ l → l.lookup p.1 = some p.2 := by
      intro l
      induction l with
      | nil => intro _ h; cases h
      | cons q r ih =>
        intro hn hm
        rw [List.map_cons, List.nodup_cons] at hn
        obtain ⟨q1, q2⟩ := q
        rcases List.mem_cons.mp hm with e | hm
        · subst e; simp [List.lookup]
        · have ne : p.1 ≠ q1 := fun z => hn.1 (List.mem_map.mpr ⟨p, hm, z⟩)
          have e : (p.1 == q1) = false := by simpa using ne
          simp only [List.lookup, e]
          exact ih hn.2 hm
    exact aux _ nd hp
  refine ⟨fun x => Classical.choose (hf x), ?_, fun p hp => Classical.choose_spec (hf p.1) _ (lk p hp)⟩
  have F : ∀ x d, y.ds.lookup x = some d → FunD K d.name d.qual (defArgs d.st) (defBody d.st) (defScope d.st) (d.d.dvs K) (d.d.kws K) (y.ad K x) (Classical.choose (hf x)) := fun x d e => Classical.choose_spec (hf x) d e
  have exs : y.ex K = true ∧ (y.xcs.all (yxB K)) = true ∧ (y.xcl.all fun c => (He.Fa.glo c).ok K) = true ∧ y.tps.all (tpB K) = true := by
    have z := (Bool.and_eq_true_iff.mp (Bool.and_eq_true_iff.mp he).2).1
    simp only [Bool.and_eq_true] at z
    exact z
  have mem : ∀ f, f ∈ y.fa → f.ok K = true := fun f hm => c.facts hm
  have cglo : ∀ c ∈ y.cls, mg c = some (.ref (He.ga K c)) := fun c hc => He.glo_ok X G (mem _ (by
    unfold Sy.fa; exact List.mem_append_right _ (List.mem_append_left _ (List.mem_map.mpr ⟨c, hc, rfl⟩))))
  have cC : ∀ c ∈ y.cls, Cls K (He.ga K c) := fun c hc => He.cls_ok (mem _ (by
    unfold Sy.fa; exact List.mem_append_right _ (List.mem_append_right _ (List.mem_append_right _ (List.mem_append_right _ (List.mem_append_right _ (List.mem_append_left _ (List.mem_map.mpr ⟨c, hc, rfl⟩)))))))) 
  refine ⟨fun p hp => ⟨scB_ok (List.all_eq_true.mp O.sc p hp), _, _, _, _, F _ _ (lk p hp)⟩, fun c hc => ?_, fun p hp => ?_, fun x hx => ?_, fun m hm => ?_, fun m hm => ?_, fun p hp C hC => ?_, fun p hp => ?_, fun p hp => ?_, (Bool.and_eq_true_iff.mp (Bool.and_eq_true_iff.mp he).2).2, fun x hx => ?_, fun p hp => ?_, fun c hc => ?_⟩
  · obtain ⟨d, e1, e2, e3⟩ := O.cps c hc
    have g1 := He.glo_ok X G (x := c.name) (mem _ (by unfold Sy.fa; exact List.mem_append_left _ (List.mem_map.mpr ⟨c, hc, rfl⟩)))
    have ea : y.ad K c.name = He.ga K c.name := by rw [Sy.ad_of e1, e2]; rfl
    refine ⟨by rw [ea]; exact g1, (F _ _ e1).kp, d, ?_⟩
    obtain ⟨gf, k⟩ := e3 K _ _ (F _ _ e1)
    exact ⟨gf, e1, k⟩
  · rcases List.mem_append.mp hp with hp | hp
    · rcases List.mem_append.mp hp with hp | hp
      · obtain ⟨q, hq, rfl⟩ := List.mem_map.mp hp
        obtain ⟨t, e⟩ := He.int_ok X G (x := q.1) (i := q.2) (mem _ (by
          unfold Sy.fa; exact List.mem_append_right _ (List.mem_append_right _ (List.mem_append_right _ (List.mem_append_left _ (List.mem_map.mpr ⟨q, hq, rfl⟩))))))
        exact ⟨_, e, ⟨t, rfl⟩⟩
      · obtain ⟨q, hq, rfl⟩ := List.mem_map.mp hp
        obtain ⟨t, e⟩ := He.str_ok X G (x := q.1) (z := q.2) (mem _ (by
          unfold Sy.fa; exact List.mem_append_right _ (List.mem_append_right _ (List.mem_append_right _ (List.mem_append_right _ (List.mem_append_left _ (List.mem_map.mpr ⟨q, hq, rfl⟩)))))))
        exact ⟨_, e, ⟨t, rfl⟩⟩
    · rcases List.mem_append.mp hp with hp | hp
      · obtain ⟨q, hq, rfl⟩ := List.mem_map.mp hp
        exact ⟨_, cglo q hq, rfl⟩
      · obtain ⟨q, hq, rfl⟩ := List.mem_map.mp hp
        exact ⟨_, He.glo_ok X G (List.all_eq_true.mp exs.2.2.1 q hq), rfl⟩
  · exact He.free_ok X G (mem _ (by unfold Sy.fa; exact List.mem_append_right _ (List.mem_append_right _ (List.mem_append_left _ (List.mem_map.mpr ⟨x, hx, rfl⟩)))))
  · obtain ⟨q, hq, rfl⟩ := List.mem_map.mp hm
    obtain ⟨hc, d, e1, e2, e3⟩ := O.cms q hq
    have g1 := He.meth_ok (x := q.cls) (m := q.name) (mem _ (by
      unfold Sy.fa; exact List.mem_append_right _ (List.mem_append_right _ (List.mem_append_right _ (List.mem_append_right _ (List.mem_append_right _ (List.mem_append_right _ (List.mem_append_left _ (List.mem_map.mpr ⟨q, hq, rfl⟩)))))))))
    have ea : y.ad K (mkey q.cls q.name) = He.ma K (He.ga K q.cls) q.name := by rw [Sy.ad_of e1, e2]; rfl
    obtain ⟨gf, k⟩ := e3 K _ _ (F _ _ e1)
    refine ⟨cC _ hc, ?_, d, gf, e1, k⟩
    show Meth K _ _ (y.ad K (mkey q.cls q.name))
    rw [ea]; exact g1
  · obtain ⟨q, hq, rfl⟩ := List.mem_map.mp hm
    obtain ⟨hc, d, e1, e2, e3⟩ := O.cks q hq
    have g1 := He.mkr_ok (x := q.cls) (mem _ (by
      unfold Sy.fa; exact List.mem_append_right _ (List.mem_append_right _ (List.mem_append_right _ (List.mem_append_right _ (List.mem_append_right _ (List.mem_append_right _ (List.mem_append_right _ (List.mem_append_left _ (List.mem_map.mpr ⟨q, hq, rfl⟩))))))))))
    have ea : y.ad K (mkey q.cls "__init__") = He.ma K (He.ga K q.cls) "__init__" := by rw [Sy.ad_of e1, e2]; rfl
    obtain ⟨gf, k⟩ := e3 K _ _ (F _ _ e1)
    refine ⟨cglo _ hc, ?_, d, gf, e1, k⟩
    show Mk K _ (y.ad K (mkey q.cls "__init__"))
    rw [ea]; exact g1
  · obtain ⟨q, hq, rfl⟩ := List.mem_map.mp hp
    obtain ⟨c', hc', rfl⟩ := List.mem_map.mp hC
    exact ⟨cC _ (O.ats q hq c' hc'), He.noat_ok (mem _ (by
      unfold Sy.fa; exact List.mem_append_right _ (List.mem_append_right _ (List.mem_append_right _ (List.mem_append_right _ (List.mem_append_right _ (List.mem_append_right _ (List.mem_append_right _ (List.mem_append_right _ (List.mem_flatMap.mpr ⟨q, hq, List.mem_map.mpr ⟨c', hc', rfl⟩⟩)))))))))
      )⟩
  · obtain ⟨q, hq, rfl⟩ := List.mem_map.mp hp
    exact List.all_eq_true.mp (Bool.and_eq_true_iff.mp he).1 q hq
  · obtain ⟨q, hq, rfl⟩ := List.mem_map.mp hp
    exact cC q (O.nes q hq)
  · obtain ⟨q, hq, rfl⟩ := List.mem_map.mp hx
    have B := List.all_eq_true.mp exs.2.1 q hq
    unfold yxB at B
    simp only [Bool.and_eq_true, decide_eq_true_eq] at B
    obtain ⟨b1, b2, b3, b4, b5, b6, b7, b8⟩ := B
    have Y := O.xcs q hq
    obtain ⟨fd, F⟩ := c.defs (d := q.df.d) (List.mem_append_right _ (List.mem_map.mpr ⟨q, hq, rfl⟩))
    have F' : FunD K q.df.name q.df.qual (defArgs q.df.st) (defBody q.df.st) (defScope q.df.st) [] (q.df.d.kws K) (He.fAd K q.df.at_) fd := by
      have : q.df.d.dvs K = [] := by unfold He.DefD.dvs Df.d; rw [Y.dfl]; rfl
      have F0 : FunD K q.df.name q.df.qual (defArgs q.df.st) (defBody q.df.st) (defScope q.df.st) (q.df.d.dvs K) (q.df.d.kws K) (He.fAd K q.df.at_) fd := F
      rw [this] at F0; exact F0
    have S : FnScope ["self", q.px] ["self", q.px] (defScope q.df.st) := by
      have z := scB_ok Y.sc
      rw [Y.N, Y.P] at z
      exact z
    refine ⟨q.b, _, fd, q.px, He.glo_ok X G b1, xcB_ok b3, xfB_ok b4, b6, b7, b8, fun P w base => xinit_ok F' S Y.bd Y.pl Y.pb Y.gl (He.glo_ok X G b2) (xpB_ok b5), ?_⟩
    intro s us _ hl
    have z := F'.bindsA (ps := q.df.P) Y.bind s us (by rw [Y.P]; simpa using hl)
    rw [Y.P] at z
    rw [List.append_nil]
    exact z
  · have B := List.all_eq_true.mp exs.2.2.2 p hp
    unfold tpB at B
    obtain ⟨b1, b3⟩ := Bool.and_eq_true_iff.mp B
    obtain ⟨b4, b2⟩ := Bool.and_eq_true_iff.mp b3
    refine ⟨_, He.glo_ok X G b1, ?_, b4⟩
    split at b2
    · rename_i xs e
      show kobj K _ = _
      rw [e, of_decide_eq_true b2]
    · cases b2
  · obtain ⟨hn, d, e1, hh, e2, e3⟩ := O.hcs c hc
    obtain ⟨c', hc', ec⟩ := List.mem_map.mp hn
    have g1 := He.glo_ok X G (x := c'.name) (mem _ (by unfold Sy.fa; exact List.mem_append_left _ (List.mem_map.mpr ⟨c', hc', rfl⟩)))
    have ea : y.ad K c.1 = He.ga K c.2.name := by rw [Sy.ad_of e1, e2]; rfl
    obtain ⟨gf, k⟩ := e3 K _ _ (F _ _ e1)
    refine ⟨by rw [ea, ← ec]; exact g1, (F _ _ e1).kp, d, gf, e1, hh, k⟩
end

/-- what a law may ask of the written part: of an own class .. -/
def clsB (K : PySem.W.Frag) (C : Addr) : Bool := PySem.W.plainGet K C Str.empty && (PySem.W.hasDictIn K C && (PySem.W.plainOver K C && decide (PySem.W.findIn K (.ref C) "__setattr__" = some (some (.builtin "object.__setattr__")))))
theorem clsB_ok {K : PySem.W.Frag} {C : Addr} (h : clsB K C = true) : Cls K C := by
  unfold clsB at h
  simp only [Bool.and_eq_true, decide_eq_true_eq] at h
  obtain ⟨h1, h2, h3, h4⟩ := h
  exact ⟨h1, h2, h3, h4⟩
def kindsS : List String := ["NoneType", "int", "str", "list", "dict"]
def kindsI : List String := ["bool", "int", "str", "list", "tuple", "dict"]
def ownX (K : PySem.W.Frag) (C : Addr) : Bool := clsB K C && (ownB K C && ((kindsS.all fun t => decide (PySem.W.subIn K (.ref C) (.type t) = some false)) && kindsI.all fun t => decide (PySem.W.kitOne K (.ref C) (.type t) = some false)))
/-- .. of two own classes apart .. -/
def apartX (K : PySem.W.Frag) (C D : Addr) : Bool := decide (PySem.W.kitOne K (.ref C) (.ref D) = some false)
/-- .. of an own exception class: what the clauses and isinstance tell of it -/
def xcX (K : PySem.W.Frag) (r : Addr) (cs is : List (Addr × Bool)) : Bool := (cs.all fun p => decide (PySem.W.exmOne K (.ref r) (.ref p.1) = some p.2)) && ((is.all fun p => decide (PySem.W.kitOne K (.ref r) (.ref p.1) = some p.2)) && excB K r)
theorem xcX_ok {K : PySem.W.Frag} {r : Addr} {cs is : List (Addr × Bool)} (h : xcX K r cs is = true) : (∀ p ∈ cs, PySem.W.exmOne K (.ref r) (.ref p.1) = some p.2) ∧ (∀ p ∈ is, PySem.W.kitOne K (.ref r) (.ref p.1) = some p.2) ∧ excB K r = true := by
  unfold xcX at h
  simp only [Bool.and_eq_true, List.all_eq_true, decide_eq_true_eq] at h
  exact h
/-- an own instance is of no built-in kind -/
theorem isi_own {K : PySem.W.Frag} {C p dx : Addr} {fs : List (Str × V)} {T : String} {H : Hp} {Q : VK} (hx : ownX K C = true) (hp : H p = some (.ins C dx fs)) (hT : T ∈ kindsI) (h : Q (.bl false) H) : bIsi K [.ref p, .ty T] H Q := by
  unfold ownX at hx
  simp only [Bool.and_eq_true, List.all_eq_true, decide_eq_true_eq] at hx
  obtain ⟨h1, h2, h3, h4⟩ := hx
  obtain ⟨k1, k2, k3, k4, k5, k6, k7⟩ := ownB_ok h2
  have tn : tyN K H (.ref p) = none := by simp only [tyN, look, hp]
  unfold bIsi
  simp only [tn]
  exact ⟨_, _, _, _, false, rfl, .ty _, .base (.ins hp (clsB_ok h1) k2 k3 k4 k5), h4 T hT, h⟩
/-! ### the law's end -/
def isLst (o : Obj) : Bool := match o.cls with
  | .type c => c == "list"
  | _ => false
/-- sys.modules and the machine's own table, where they stand -/
def sysE (g : Addr → Option Obj) : PySem.W.Frag := [sysModules, cStatics].filterMap fun a => (g a).map fun o => (a, o)
/-- the written part without its lists (so the script is never an object of it), and sys.modules -/
def frZ (g : Addr → Option Obj) (as : List Addr) : PySem.W.Frag := (He.frT g as ++ sysE g).filter fun q => !isLst q.2
theorem frZ_mem {g : Addr → Option Obj} {as : List Addr} {a : Addr} {o : Obj} (h : (frZ g as).lookup a = some o) : g a = some o ∧ isLst o = false := by
  have m := List.mem_filter.mp (He.lookup_mem h)
  refine ⟨?_, by simpa using m.2⟩
  rcases List.mem_append.mp m.1 with z | z
  · exact He.frG_mem (List.mem_filter.mp z).1
  · unfold sysE at z
    obtain ⟨b, _, e⟩ := List.mem_filterMap.mp z
    cases hb : g b with
    | none => rw [hb] at e; cases e
    | some u => rw [hb] at e; cases e; exact hb
def obsZ (n : Nat) (fa : List He.Fa) (fn : List He.DefD) (ex : PySem.W.Frag → Bool) (g : Addr → Option Obj) : He.AlD × Bool := (He.obsD fa fn (frZ g (He.asD g n)), ex (frZ g (He.asD g n)))
def hkY (y : Sy) : PySem.W.Hook where
  α := He.AlD × Bool
  obs := fun s => obsZ 5 y.fa y.fn y.exB s.heap.get?
  val := fun _ => (He.valD y.fn, true)
  says := fun _ h => ∃ K : PySem.W.Frag, K.In h ∧ He.SaysD y.fa y.fn K ∧ y.exB K = true ∧ ∀ a o, K.lookup a = some o → isLst o = false
  of := fun _ _ e => ⟨_, fun _ _ e => (frZ_mem e).1, congrArg (fun z : He.AlD × Bool => z.1) e, congrArg (fun z : He.AlD × Bool => z.2) e, fun _ _ e => (frZ_mem e).2⟩
  keeps := fun _ _ _ ⟨K, hK, c⟩ k => ⟨K, PySem.W.Frag.In.keeps hK k, c⟩
def obY (y : Sy) (s : PySem.W.SharedT) : He.AlD × Bool := obsZ 5 y.fa y.fn y.exB (HandSHeadRun.getT s)
theorem obY_eq (y : Sy) (s : PySem.W.SharedT) : obY y s = (hkY y).obs s.abs := by
  have e : HandSHeadRun.getT s = s.abs.heap.get? := funext (HandSHeadRun.getT_eq s)
  show obsZ 5 y.fa y.fn y.exB (HandSHeadRun.getT s) = obsZ 5 y.fa y.fn y.exB s.abs.heap.get?
  rw [e]
/-- the promise of law, n calls deep, at scripts of at most 63 numbers -/
def LawY (y : Sy) (m n : Nat) : Prop := ∀ (K : PySem.W.Frag), y.ex K = true → ∀ (H : Hp) (a : Addr) (ns : List Int), ns.length ≤ 63 → Only H → (∃ o, H a = some (.frz o (.lst (ns.map V.int)))) →
  spAt (y.tb K) m y.ds n "law" [.ref a] H (fun v _ => v = .bl true) fun _ _ _ => False
theorem abs_ints : ∀ {us : List Value} {ns : List Int}, Vals (ns.map V.int) us → absVs us = some (ns.map V.int)
  | [], ns, r => by
    cases ns with
    | nil => rfl
    | cons n ns => cases r
  | u :: us, ns, r => by
    cases ns with
    | nil => cases r
    | cons n ns =>
      cases r with
      | cons h t =>
        obtain ⟨tk, rfl⟩ := h
        unfold absVs
        rw [abs_ints t]
        rfl
theorem walkY {l : PySem.W.OpenLaw} {q : Program} {loose : List Str} {XP : (Str → Option Value) → Heap → Prop} {dr : DefRec} (y : Sy) (m n : Nat) (dl : Df) (O : SyOk y) (nd : (y.ds.map (·.1)).Nodup) (hl : y.ds.lookup ("law" : Str) = some dl) (hP : dl.P = [("script" : Str)]) (hdl : dl.dfl = [])
    (hat : dl.at_ = (("law" : Str), none)) (hcl : ∃ c ∈ y.cps, c.name = ("law" : Str))
    (hb : ∀ (kV doc pm : Value) (an : Option Addr) (cdv ct : Value) (us : List Value), us.length = dl.P.length → bindArgs (PySem.W.fnOf dl.name dl.qual (defArgs dl.st) (defBody dl.st) (defScope dl.st) .none kV doc pm an cdv ct) ⟨us, []⟩ = pure (dl.P.zip us))
    (hn : l.most = some 63) (hdf : dr.params.defaults = []) (hnm : dr.name = ("law" : Str)) (hr : Room (3 * n) callerA) (law : LawY y m n) :
    PySem.W.WalkO q loose XP (hkY y).says l.row.toRowW dr [] (fun f vs => PySem.call f vs) := by
  refine Att.attach_call hn hdf fun w s₀ s₁ mg mb fa o pm cd doc a vs ns G Y ho hd hcd hmg hobj hints hlen hg => ?_
  obtain ⟨K, KX, c⟩ := Y
  rw [hnm] at hmg
  obtain ⟨fd, T, F⟩ := sy_tok O KX G.T.g c.1 nd c.2.1
  have Fl := F ("law", dl) (PySem.mem_of_lookup hl)
  have ea : y.ad K "law" = fa := by
    obtain ⟨cc, hc, e⟩ := hcl
    have e1 := (T.cps cc hc).1
    rw [e, hmg] at e1
    cases e1; rfl
  have Fl' : FunD K dl.name dl.qual (defArgs dl.st) (defBody dl.st) (defScope dl.st) [] (dl.d.kws K) (y.ad K "law") (fd "law") := by
    have : dl.d.dvs K = [] := by unfold He.DefD.dvs Df.d; rw [hdl]; rfl
    rw [this] at Fl; exact Fl
  have hF : ∀ base : Heap, K.In base → base.Ns mainGlobals mg → FnW l.prog w K mg base (L2.CX l.prog w) (3 * n) fa (fd "law") ["script"] (spAt (y.tb K) m y.ds n "law") := fun base _ _ => by
    have z := spAt_ok (P := l.prog) (w := w) (base := base) (m := m) T n "law" dl hl
    rw [ea, hP] at z
    exact z
  have hKa : K.lookup a = none := by
    cases q : K.lookup a with
    | none => rfl
    | some o =>
      have z := KX a o q
      rw [hobj] at z
      cases z
      have := c.2.2 a _ q
      unfold isLst at this
      cases this
  refine lawW_call (CX := L2.CX l.prog w) KX G.T.g G.T.b G.T.builtins G.T.nolimit hg hobj hints (Nat.le_trans hlen (by decide)) hr hKa hF (fun s u => ?_) (fun H hO hS => law K (Bool.and_eq_true_iff.mp (Bool.and_eq_true_iff.mp (Bool.and_eq_true_iff.mp c.2.1).2).1).1 H a ns hlen hO hS) fun H e s' z => ?_
  · have b := Fl'.bindsA (ps := dl.P) hb s [u] (by rw [hP]; rfl)
    rw [hP] at b
    exact b
  · obtain ⟨_, _, _, _, _, _, _, _, _, _, _, _, z⟩ := z
    exact z
end WR

set_option Elab.async false
set_option linter.all false
set_option maxRecDepth 100000
set_option maxHeartbeats 4000000
namespace WR
open PySem PySem.Spec PyProof.Rows L2
/-! ## shorthands of the printed readings -/
def mf (g : G) (m : Str) (n : Nat) (ks : List Str) : List MtI := g.mts.filter fun i => decide (i.name = m) && decide (i.n = n) && decide (i.ks = ks)
def bf (K : PySem.W.Frag) (m : Str) : List BM := (bms K).filter fun b => decide (b.name = m)
def mC (g : G) (m : Str) (n nk : Nat) (ks : List Str) (ta : TE) (t tk : TA) (W : WX) : TE := cMeth g.K m n nk (mf g m n ks) (bf g.K m) ta t tk W
/-- a method of a built-in type alone -/
def mCB (K : PySem.W.Frag) (m : Str) (n : Nat) (ta : TE) (t : TA) (W : WX) : TE := cMeth K m n 0 [] (bf K m) ta t tNil W
def orL (t : TS) : TS := fun D σ H => t D σ H ∨ tLock t D σ H
def joinT (ts : List TE) : TE := fun σ H Q => cJs ts Str.empty σ H fun out H1 => Q (.str out) H1
/-- raise C(e) -/
def tRs (W : WX) (C : Addr) (f : Str) (te : TE) : TS := fun _ σ H => tMkX C f te σ H fun cls d H' => W cls d σ H'
/-- try: tb, the clauses l -/
def tTryW (K : PySem.W.Frag) (W : WX) (l : List ClR) (tb : WX → TS) : TS := fun D σ H => tb (wCl K W D l) D σ H
/-- a method of an own class, one candidate -/
theorem mC_own {g : G} {m : Str} {n nk : Nat} {ks : List Str} {ta : TE} {t tk : TA} {W : WX} {c : MtI} {σ : St} {H : Hp} {Q : VK} (hm : mf g m n ks = [c])
    (h : ta σ H fun x H1 => ∃ p dx fs, x = .ref p ∧ H1 p = some (.ins c.cls dx fs) ∧ fs.lookup m = none ∧ t σ H1 fun vs H2 => tk σ H2 fun zs H3 => vs.length = n ∧ zs.length = nk ∧ c.sp (.ref p :: c.arr vs zs) H3 Q (fun cls d H' => W cls d σ H'))
    (mono : ∀ P P' : V → Hp → Prop, (∀ x H, P x H → P' x H) → ta σ H P → ta σ H P') : mC g m n nk ks ta t tk W σ H Q := by
  unfold mC cMeth
  rw [hm]
  refine mono _ _ (fun x H1 q => ?_) h
  obtain ⟨p, dx, fs, rfl, e, l, q⟩ := q
  simp only [insOf, e, l, List.mem_singleton, exists_eq_left, true_and]
  exact q
/-- two candidates, the first or the second -/
theorem mC_own2 {g : G} {m : Str} {n nk : Nat} {ks : List Str} {ta : TE} {t tk : TA} {W : WX} {c : MtI} {l : List MtI} {σ : St} {H : Hp} {Q : VK} (hm : mf g m n ks = l) (hc : c ∈ l)
    (h : ta σ H fun x H1 => ∃ p dx fs, x = .ref p ∧ H1 p = some (.ins c.cls dx fs) ∧ fs.lookup m = none ∧ t σ H1 fun vs H2 => tk σ H2 fun zs H3 => vs.length = n ∧ zs.length = nk ∧ c.sp (.ref p :: c.arr vs zs) H3 Q (fun cls d H' => W cls d σ H'))
    (mono : ∀ P P' : V → Hp → Prop, (∀ x H, P x H → P' x H) → ta σ H P → ta σ H P') : mC g m n nk ks ta t tk W σ H Q := by
  unfold mC cMeth
  rw [hm]
  refine mono _ _ (fun x H1 q => ?_) h
  obtain ⟨p, dx, fs, rfl, e, l, q⟩ := q
  simp only [insOf, e, l]
  exact ⟨trivial, c, hc, rfl, q⟩
theorem mC_ownL {g : G} {m : Str} {n nk : Nat} {ks : List Str} {ta : TE} {t tk : TA} {W : WX} {c c' : MtI} {σ : St} {H : Hp} {Q : VK} (hm : mf g m n ks = [c, c'])
    (h : ta σ H fun x H1 => ∃ p dx fs, x = .ref p ∧ H1 p = some (.ins c.cls dx fs) ∧ fs.lookup m = none ∧ t σ H1 fun vs H2 => tk σ H2 fun zs H3 => vs.length = n ∧ zs.length = nk ∧ c.sp (.ref p :: c.arr vs zs) H3 Q (fun cls d H' => W cls d σ H'))
    (mono : ∀ P P' : V → Hp → Prop, (∀ x H, P x H → P' x H) → ta σ H P → ta σ H P') : mC g m n nk ks ta t tk W σ H Q := mC_own2 hm List.mem_cons_self h mono
theorem mC_ownR {g : G} {m : Str} {n nk : Nat} {ks : List Str} {ta : TE} {t tk : TA} {W : WX} {c c' : MtI} {σ : St} {H : Hp} {Q : VK} (hm : mf g m n ks = [c', c])
    (h : ta σ H fun x H1 => ∃ p dx fs, x = .ref p ∧ H1 p = some (.ins c.cls dx fs) ∧ fs.lookup m = none ∧ t σ H1 fun vs H2 => tk σ H2 fun zs H3 => vs.length = n ∧ zs.length = nk ∧ c.sp (.ref p :: c.arr vs zs) H3 Q (fun cls d H' => W cls d σ H'))
    (mono : ∀ P P' : V → Hp → Prop, (∀ x H, P x H → P' x H) → ta σ H P → ta σ H P') : mC g m n nk ks ta t tk W σ H Q := mC_own2 hm (List.mem_cons_of_mem _ List.mem_cons_self) h mono
/-- an own method of another call's answer -/
theorem mC_ko {g : G} {m : Str} {n nk : Nat} {ks : List Str} {ta : TE} {t tk : TA} {W : WX} {σ : St} {H : Hp} {Q : VK}
    (h : ∀ N : V → Hp → Prop, (∀ (c : MtI) p dx fs H1, c ∈ mf g m n ks → H1 p = some (.ins c.cls dx fs) → fs.lookup m = none → (t σ H1 fun vs H2 => tk σ H2 fun zs H3 => vs.length = n ∧ zs.length = nk ∧ c.sp (.ref p :: c.arr vs zs) H3 Q (fun cls d H' => W cls d σ H')) → N (.ref p) H1) → ta σ H N) : mC g m n nk ks ta t tk W σ H Q := by
  unfold mC cMeth
  refine h _ fun c p dx fs H1 hc e l q => ?_
  simp only [insOf, e, l]
  exact ⟨trivial, c, hc, rfl, q⟩
/-- a built-in's method -/
theorem mC_blt {g : G} {m : Str} {n : Nat} {ks : List Str} {ta : TE} {t tk : TA} {W : WX} {σ : St} {H : Hp} {Q : VK}
    (h : ta σ H fun x H1 => insOf H1 x = none ∧ ∃ T, tyB g.K H1 x = some T ∧ ∃ b, (bf g.K m).find? (fun b => b.T == T) = some b ∧ t σ H1 fun vs H2 => b.r x vs H2 Q)
    (mono : ∀ P P' : V → Hp → Prop, (∀ x H, P x H → P' x H) → ta σ H P → ta σ H P') : mC g m n 0 ks ta t tk W σ H Q := by
  unfold mC cMeth
  refine mono _ _ (fun x H1 q => ?_) h
  obtain ⟨h1, T, h2, b, h3, q⟩ := q
  simp only [h1, h2, h3, true_and]
  exact q
theorem mono_var {i : Nat} {σ : St} {H : Hp} {P P' : V → Hp → Prop} (h : ∀ x H, P x H → P' x H) (q : cVar i σ H P) : cVar i σ H P' := by
  unfold cVar at q ⊢
  split at q
  · exact h _ _ q
  · exact q.elim
theorem mono_C {v : V} {σ : St} {H : Hp} {P P' : V → Hp → Prop} (h : ∀ x H, P x H → P' x H) (q : tC v σ H P) : tC v σ H P' := h _ _ q
/-- own specials, one candidate -/
theorem spc_one {g : G} {m : Str} {C : Addr} {x : V} {vs : List V} {H : Hp} {Q : VK} {c : MtI} (hm : cands g m vs.length = [c]) (hc : c.cls = C) (h : c.sp (x :: c.arr vs []) H Q (fun _ _ _ => False)) : spc g m C x vs H Q :=
  ⟨c, by rw [hm]; exact List.mem_singleton_self _, hc, h⟩
theorem spc_L {g : G} {m : Str} {C : Addr} {x : V} {vs : List V} {H : Hp} {Q : VK} {c c' : MtI} (hm : cands g m vs.length = [c, c']) (hc : c.cls = C) (h : c.sp (x :: c.arr vs []) H Q (fun _ _ _ => False)) : spc g m C x vs H Q :=
  ⟨c, by rw [hm]; exact List.mem_cons_self, hc, h⟩
theorem spc_R {g : G} {m : Str} {C : Addr} {x : V} {vs : List V} {H : Hp} {Q : VK} {c c' : MtI} (hm : cands g m vs.length = [c', c]) (hc : c.cls = C) (h : c.sp (x :: c.arr vs []) H Q (fun _ _ _ => False)) : spc g m C x vs H Q :=
  ⟨c, by rw [hm]; exact List.mem_cons_of_mem _ List.mem_cons_self, hc, h⟩
end WR

set_option Elab.async false
set_option linter.all false
set_option maxRecDepth 100000
set_option maxHeartbeats 4000000
namespace WR
open PySem PySem.Spec PyProof.Rows L2
/-! ## rules for walking the readings -/
section
variable {K : PySem.W.Frag} {H : Hp} {a : Addr} {xs : List V} {x y : V} {Q : VK} {g : G}
theorem ins_look {u : HO} (h : look K H a = some u) (hu : ∀ C dx fs, u ≠ .ins C dx fs) : insOf H (.ref a) = none := by
  unfold look at h
  cases e : H a with
  | none => simp only [insOf, e]
  | some o =>
    rw [e] at h
    cases o <;> simp only [insOf, e]
    cases h
    exact absurd rfl (hu _ _ _)
theorem ins_lst (h : look K H a = some (.lst xs)) : insOf H (.ref a) = none := ins_look h fun _ _ _ z => nomatch z
theorem ins_tup (h : look K H a = some (.tup xs)) : insOf H (.ref a) = none := ins_look h fun _ _ _ z => nomatch z
theorem ins_dK {kvs : List (Key × V)} (h : look K H a = some (.dK kvs)) : insOf H (.ref a) = none := ins_look h fun _ _ _ z => nomatch z
theorem ins_int {i : Int} : insOf H (.int i) = none := rfl
theorem ins_str {i : Str} : insOf H (.str i) = none := rfl
theorem ins_non : insOf H .non = none := rfl
theorem ins_bl {b : Bool} : insOf H (.bl b) = none := rfl
theorem ins_ins {C dx : Addr} {fs : List (Str × V)} (h : H a = some (.ins C dx fs)) : insOf H (.ref a) = some (a, C, fs) := by simp only [insOf, h]
theorem ty_lst (h : look K H a = some (.lst xs)) : tyN K H (.ref a) = some "list" := by simp only [tyN, h]
theorem ty_tup (h : look K H a = some (.tup xs)) : tyN K H (.ref a) = some "tuple" := by simp only [tyN, h]
theorem ty_dK {kvs : List (Key × V)} (h : look K H a = some (.dK kvs)) : tyN K H (.ref a) = some "dict" := by simp only [tyN, h]
theorem ty_ins {x : V} {n : String} (h : tyN K H x = some n) : insOf H x = none := by
  cases x with
  | ref p =>
    cases e : H p with
    | none => simp only [insOf, e]
    | some o =>
      cases o <;> simp only [insOf, e]
      simp [tyN, look, e] at h
  | _ => rfl
/-! ### len, isinstance, subscripts -/
theorem len_lst (hg : g.K = K) (h : look K H a = some (.lst xs)) : bLenG g [.ref a] H Q = Q (.int xs.length) H := by
  unfold bLenG; simp only [ins_lst h]; unfold bLen; rw [hg]; simp only [h]
theorem len_tup (hg : g.K = K) (h : look K H a = some (.tup xs)) : bLenG g [.ref a] H Q = Q (.int xs.length) H := by
  unfold bLenG; simp only [ins_tup h]; unfold bLen; rw [hg]; simp only [h]
theorem len_dK {kvs : List (Key × V)} (hg : g.K = K) (h : H a = some (.dK kvs)) : bLenG g [.ref a] H Q = Q (.int kvs.length) H := by
  have e : look K H a = some (.dK kvs) := look_of_dK h
  unfold bLenG; simp only [ins_dK e]; unfold bLen; rw [hg]; simp only [e, h]
theorem len_str {s : Str} : bLenG g [.str s] H Q = (s.length ≤ sizeLine ∧ Q (.int s.length) H) := rfl
theorem isi_ty {n T : String} {b : Bool} (h : tyN K H x = some n) (e : kitB n T = some b) : bIsi K [x, .ty T] H Q = Q (.bl b) H := by
  simp only [bIsi, h, e]
theorem ix_lst {i : Int} {v : V} (h : look K H a = some (.lst xs)) (e : atI xs i = some v) : oIx K (.ref a) (.int i) H Q = Q v H := by simp only [oIx, h, e]
theorem ix_tup {i : Int} {v : V} (h : look K H a = some (.tup xs)) (e : atI xs i = some v) : oIx K (.ref a) (.int i) H Q = Q v H := by simp only [oIx, h, e]
theorem ix_dK {kvs : List (Key × V)} {k : Key} {v : V} (h : H a = some (.dK kvs) ∨ ∃ o, H a = some (.frz o (.dK kvs))) : (.some v = valV kvs k) → oIx K (.ref a) (kV k) H Q = Q v H := fun ev => by
  have e : look K H a = some (.dK kvs) := by
    rcases h with h | ⟨o, h⟩
    · exact look_of_dK h
    · unfold look; rw [h]
  simp only [oIx, e, oGet]
  rcases h with h | ⟨o, h⟩ <;> simp only [h] <;> cases k <;> simp only [kV, keyOf, ← ev]
theorem in_dK {kvs : List (Key × V)} {k : Key} {b : Bool} (h : H a = some (.dK kvs) ∨ ∃ o, H a = some (.frz o (.dK kvs))) : oIn K b (kV k) (.ref a) H Q = Q (.bl (b ^^ (valV kvs k).isSome)) H := by
  have e : look K H a = some (.dK kvs) := by
    rcases h with h | ⟨o, h⟩
    · exact look_of_dK h
    · unfold look; rw [h]
  simp only [oIn, e, oGet]
  rcases h with h | ⟨o, h⟩ <;> simp only [h] <;> cases k <;> rfl
theorem eq_scal (hg : g.K = K) (h1 : insOf H x = none) (h2 : scal x y = true) (h : Q (.bl (decide (x = y))) H) : oEqG g x y H Q := by
  refine .inl ?_; unfold oEqG0; simp only [h1]; exact .inl (.inl ⟨h2, h⟩)
theorem ne_scal (hg : g.K = K) (h1 : insOf H x = none) (h2 : scal x y = true) (h : Q (.bl (!decide (x = y))) H) : oNeG g x y H Q := by
  unfold oNeG; simp only [h1]; exact .inl (.inl ⟨h2, h⟩)
theorem atI_nat {α : Type} {xs : List α} {k : Nat} : atI xs (k : Int) = xs[k]? := by
  unfold atI ixN
  by_cases h : k < xs.length
  · simp [h]
  · simp [h]
end
/-! ### loops by an invariant -/
theorem lp_inv {J : It} {g : TG} {tb : TS} {D : Ends} {n : Nat} (P : Nat → St → Hp → Prop)
    (hstop : ∀ σ H, P n σ H → J.stop n H ∧ D.nx σ H)
    (hgo : ∀ i σ H, i < n → P i σ H → ∀ R : St → Hp → Prop, (∀ σ' H', P (i + 1) σ' H' → R σ' H') → J.go i H ∧ ∀ x H', J.yld i H x H' → g x σ H' fun σ2 H2 => tb { D with nx := R, ct := R, bk := D.nx } σ2 H2)
    {σ : St} {H : Hp} (h : P 0 σ H) : ∃ m, lp J g tb D m 0 σ H := by
  have key : ∀ m i σ H, m + i = n → P i σ H → lp J g tb D m i σ H := by
    intro m
    induction m with
    | zero =>
      intro i σ H hm p
      have : i = n := by omega
      subst this
      exact hstop _ _ p
    | succ m ih =>
      intro i σ H hm p
      exact .inr (hgo i σ H (by omega) p _ fun σ' H' q => ih (i + 1) σ' H' (by omega) q)
  exact ⟨n, key n 0 σ H (by omega) h⟩
theorem lpc_inv {J : It} {g : TG} {tt : TT} {te : TE} {vs : List Nat} {σ : St} {D : Addr} {Q : VK} {n : Nat} (P : Nat → Hp → Prop)
    (hstop : ∀ H, P n H → J.stop n H ∧ Q (.ref D) H)
    (hgo : ∀ i H, i < n → P i H → ∀ R : Hp → Prop, (∀ H', P (i + 1) H' → R H') → J.go i H ∧ ∀ x H', J.yld i H x H' → g x (wipe σ vs) H' fun σ2 H2 => wipe σ2 vs = wipe σ vs ∧ tt σ2 H2 fun b H3 =>
      if b = true then te σ2 H3 fun y H4 => ∃ acc, H4 D = some (.lst acc) ∧ acc.length < sizeLine ∧ R (upd H4 D (.lst (acc ++ [y]))) else R H3)
    {H : Hp} (h : P 0 H) : ∃ m, lpc J g tt te vs σ D Q m 0 H := by
  have key : ∀ m i H, m + i = n → P i H → lpc J g tt te vs σ D Q m i H := by
    intro m
    induction m with
    | zero =>
      intro i H hm p
      have : i = n := by omega
      subst this
      exact hstop _ p
    | succ m ih =>
      intro i H hm p
      exact .inr (hgo i H (by omega) p _ fun H' q => ih (i + 1) H' (by omega) q)
  exact ⟨n, key n 0 H (by omega) h⟩
theorem lpd_inv {J : It} {g : TG} {tt : TT} {tk tv : TE} {vs : List Nat} {σ : St} {D : Addr} {Q : VK} {n : Nat} (P : Nat → Hp → Prop)
    (hstop : ∀ H, P n H → J.stop n H ∧ Q (.ref D) H)
    (hgo : ∀ i H, i < n → P i H → ∀ R : Hp → Prop, (∀ H', P (i + 1) H' → R H') → J.go i H ∧ ∀ x H', J.yld i H x H' → g x (wipe σ vs) H' fun σ2 H2 => wipe σ2 vs = wipe σ vs ∧ tt σ2 H2 fun b H3 =>
      if b = true then tk σ2 H3 fun y H4 => tv σ2 H4 fun z H5 => ∃ kvs k, y = kV k ∧ H5 D = some (.dK kvs) ∧ kvs.length < sizeLine ∧ R (upd H5 D (.dK (putK kvs k z))) else R H3)
    {H : Hp} (h : P 0 H) : ∃ m, lpd J g tt tk tv vs σ D Q m 0 H := by
  have key : ∀ m i H, m + i = n → P i H → lpd J g tt tk tv vs σ D Q m i H := by
    intro m
    induction m with
    | zero =>
      intro i H hm p
      have : i = n := by omega
      subst this
      exact hstop _ p
    | succ m ih =>
      intro i H hm p
      exact .inr (hgo i H (by omega) p _ fun H' q => ih (i + 1) H' (by omega) q)
  exact ⟨n, key n 0 H (by omega) h⟩
/-! ### what stays -/
/-- all that was tracked stays as it is -/
abbrev Ex (H H' : Hp) : Prop := ∀ b o, H b = some o → H' b = some o
theorem Ex.refl {H : Hp} : Ex H H := fun _ _ e => e
theorem Ex.trans {H H1 H2 : Hp} (a : Ex H H1) (b : Ex H1 H2) : Ex H H2 := fun c o e => b c o (a c o e)
theorem Ex.new {H H1 : Hp} {p : Addr} {o : HO} (x : Ex H H1) (h : H p = none) : Ex H (upd H1 p o) := fun b u e => by
  rw [upd_ne (ne_of_none e h)]; exact x b u e
theorem Ex.none {H H1 : Hp} {p : Addr} (x : Ex H H1) (h : H1 p = none) : H p = none := by
  cases e : H p with
  | none => rfl
  | some o => rw [x p o e] at h; cases h
/-- .. but what stands at d -/
abbrev Exd (d : Addr) (H H' : Hp) : Prop := ∀ b o, b ≠ d → H b = some o → H' b = some o
/-- what a look sees of lists and tuples stays -/
theorem look_ex {K : PySem.W.Frag} {H H' : Hp} {a : Addr} {u : HO} (x : Ex H H') (hH : H a ≠ none) (h : look K H a = some u) : look K H' a = some u := by
  unfold look at h ⊢
  cases e : H a with
  | none => exact absurd e hH
  | some o => rw [x a o e]; rw [e] at h; exact h
end WR

set_option Elab.async false
set_option linter.all false
set_option maxRecDepth 100000
set_option maxHeartbeats 4000000
namespace WR
open PySem PySem.Spec PyProof.Rows L2
/-! ## sorted texts -/
theorem ltCps_irrefl : ∀ l : List Nat, ltCps l l = false
  | [] => rfl
  | a :: r => by simp [ltCps, ltCps_irrefl r]
theorem ltCps_asymm : ∀ l m : List Nat, ltCps l m = false → ltCps m l = false → l = m
  | [], [], _, _ => rfl
  | [], _ :: _, h, _ => by simp [ltCps] at h
  | _ :: _, [], _, h => by simp [ltCps] at h
  | a :: r, b :: t, h, k => by
    simp only [ltCps, Bool.or_eq_false_iff, decide_eq_false_iff_not, Bool.and_eq_false_iff, beq_eq_false_iff_ne] at h k
    have e : a = b := by omega
    subst e
    have h2 : ltCps r t = false := h.2.resolve_left (fun z => z rfl)
    have k2 : ltCps t r = false := k.2.resolve_left (fun z => z rfl)
    rw [ltCps_asymm r t h2 k2]
theorem ltCps_trans : ∀ l m n : List Nat, ltCps m l = false → ltCps n m = false → ltCps n l = false
  | [], m, n, h, k => by
    cases n with
    | nil => rfl
    | cons c u => rfl
  | a :: r, [], n, h, k => by simp [ltCps] at h
  | a :: r, b :: t, [], h, k => by simp [ltCps] at k
  | a :: r, b :: t, c :: u, h, k => by
    simp only [ltCps, Bool.or_eq_false_iff, decide_eq_false_iff_not, Bool.and_eq_false_iff, beq_eq_false_iff_ne] at h k ⊢
    refine ⟨by omega, ?_⟩
    by_cases e1 : c = a
    · have e2 : b = a := by omega
      have e3 : c = b := by omega
      have h2 : ltCps t r = false := h.2.resolve_left (fun z => z e2)
      have k2 : ltCps u t = false := k.2.resolve_left (fun z => z e3)
      exact .inr (ltCps_trans r t u h2 k2)
    · exact .inl e1
theorem str_ext {a b : Str} (h : a.cps.toList = b.cps.toList) : a = b := by
  obtain ⟨x⟩ := a
  obtain ⟨y⟩ := b
  have : x = y := Array.toList_inj.mp h
  rw [this]
/-- not ahead -/
def leS (a b : Str) : Prop := ltCps b.cps.toList a.cps.toList = false
theorem rising_all : ∀ (r : List Str) (p : Str), risingS p r = true → (∀ x ∈ r, leS p x) ∧ r.Pairwise leS
  | [], p, _ => ⟨fun x h => (nomatch h), List.Pairwise.nil⟩
  | x :: r, p, h => by
    simp only [risingS, Bool.and_eq_true, Bool.not_eq_true'] at h
    obtain ⟨h1, h2⟩ := rising_all r x h.2
    refine ⟨fun y hy => ?_, List.pairwise_cons.mpr ⟨h1, h2⟩⟩
    rcases List.mem_cons.mp hy with rfl | hy
    · exact h.1
    · exact ltCps_trans _ _ _ h.1 (h1 y hy)
theorem sortedS_pw {l : List Str} (h : sortedS l = true) : l.Pairwise leS := by
  cases l with
  | nil => exact List.Pairwise.nil
  | cons x r =>
    obtain ⟨h1, h2⟩ := rising_all r x h
    exact List.pairwise_cons.mpr ⟨h1, h2⟩
theorem pw_uniq : ∀ {l m : List Str}, l.Perm m → l.Pairwise leS → m.Pairwise leS → l = m
  | [], m, p, _, _ => p.nil_eq
  | x :: r, [], p, _, _ => absurd p.symm.nil_eq (by simp)
  | x :: r, y :: t, p, h, k => by
    rw [List.pairwise_cons] at h k
    have e : x = y := by
      have hx : x ∈ y :: t := p.mem_iff.mp (List.mem_cons_self ..)
      have hy : y ∈ x :: r := p.mem_iff.mpr (List.mem_cons_self ..)
      rcases List.mem_cons.mp hx with e | hx
      · exact e
      · rcases List.mem_cons.mp hy with e | hy
        · exact e.symm
        · exact str_ext (ltCps_asymm _ _ (k.1 x hx) (h.1 y hy))
    subst e
    rw [pw_uniq (List.Perm.cons_inv p) h.2 k.2]
/-- two sorted lists of the same texts are one -/
theorem srt_uniq {l m k : List Str} (h1 : l.Perm k) (h2 : sortedS l = true) (h3 : m.Perm k) (h4 : sortedS m = true) : l = m :=
  pw_uniq (h1.trans h3.symm) (sortedS_pw h2) (sortedS_pw h4)
theorem srt_filter {l m k : List Str} {f : Str → Bool} (h1 : l.Perm k) (h2 : sortedS l = true) (h3 : m.Perm (k.filter f)) (h4 : sortedS m = true) : l.filter f = m :=
  pw_uniq ((h1.filter f).trans h3.symm) ((sortedS_pw h2).filter f) (sortedS_pw h4)
/-! ## dicts from names to pairs of numbers -/
abbrev Rws := List (Str × (Int × Int))
def rget (rs : Rws) (n : Str) : Option (Int × Int) := (rs.find? fun r => decide (r.1 = n)).map (·.2)
def rput (rs : Rws) (n : Str) (p : Int × Int) : Rws := if (rs.any fun r => decide (r.1 = n)) = true then rs.map (fun r => if r.1 = n then (r.1, p) else r) else rs ++ [(n, p)]
def rdrop (rs : Rws) (n : Str) : Rws := rs.filter fun r => decide (r.1 ≠ n)
/-- the dict's pairs, each value a tuple of two numbers -/
def RR (H : Hp) : List (Key × V) → Rws → Prop
  | [], [] => True
  | (k, v) :: kvs, (n, c, l) :: rs => k = .inr n ∧ (∃ t, v = .ref t ∧ H t = some (.tup [.int c, .int l])) ∧ RR H kvs rs
  | _, _ => False
/-- tuples stay -/
abbrev Tp (H H' : Hp) : Prop := ∀ t xs, H t = some (.tup xs) → H' t = some (.tup xs)
theorem Ex.tp {H H' : Hp} (x : Ex H H') : Tp H H' := fun t xs e => x t _ e
theorem RR.tp {H H' : Hp} (x : Tp H H') : ∀ {kvs : List (Key × V)} {rs : Rws}, RR H kvs rs → RR H' kvs rs
  | [], [], _ => trivial
  | [], _ :: _, h => h.elim
  | _ :: _, [], h => h.elim
  | (k, v) :: kvs, (n, c, l) :: rs, h => ⟨h.1, by obtain ⟨t, e, q⟩ := h.2.1; exact ⟨t, e, x _ _ q⟩, RR.tp x h.2.2⟩
theorem RR.len {H : Hp} : ∀ {kvs : List (Key × V)} {rs : Rws}, RR H kvs rs → kvs.length = rs.length
  | [], [], _ => rfl
  | [], _ :: _, h => h.elim
  | _ :: _, [], h => h.elim
  | (k, v) :: kvs, (n, c, l) :: rs, h => congrArg Nat.succ (RR.len h.2.2)
theorem RR.keys {H : Hp} : ∀ {kvs : List (Key × V)} {rs : Rws}, RR H kvs rs → keysS kvs = some (rs.map (·.1))
  | [], [], _ => rfl
  | [], _ :: _, h => h.elim
  | _ :: _, [], h => h.elim
  | (k, v) :: kvs, (n, c, l) :: rs, h => by
    obtain ⟨rfl, _, r⟩ := h
    simp only [keysS, RR.keys r, List.map_cons, Option.map_some]
theorem RR.any {H : Hp} (n : Str) : ∀ {kvs : List (Key × V)} {rs : Rws}, RR H kvs rs → (kvs.any fun kv => decide (kv.1 = .inr n)) = (rs.any fun r => decide (r.1 = n))
  | [], [], _ => rfl
  | [], _ :: _, h => h.elim
  | _ :: _, [], h => h.elim
  | (k, v) :: kvs, (m, c, l) :: rs, h => by
    obtain ⟨rfl, _, r⟩ := h
    simp only [List.any_cons, RR.any n r, Sum.inr.injEq]
theorem RR.get {H : Hp} (n : Str) : ∀ {kvs : List (Key × V)} {rs : Rws}, RR H kvs rs → (valV kvs (.inr n) = none ∧ rget rs n = none) ∨ ∃ t c l, valV kvs (.inr n) = some (.ref t) ∧ rget rs n = some (c, l) ∧ H t = some (.tup [.int c, .int l])
  | [], [], _ => .inl ⟨rfl, rfl⟩
  | [], _ :: _, h => h.elim
  | _ :: _, [], h => h.elim
  | (k, v) :: kvs, (m, c, l) :: rs, h => by
    obtain ⟨rfl, ⟨t, rfl, e⟩, r⟩ := h
    by_cases hm : m = n
    · subst hm
      exact .inr ⟨t, c, l, valV_pos rfl, by simp [rget], e⟩
    · have h1 : ¬ ((Sum.inr m : Key) = Sum.inr n) := fun z => hm (Sum.inr.inj z)
      rcases RR.get n r with ⟨a, b⟩ | ⟨t', c', l', a, b, d⟩
      · exact .inl ⟨by rw [valV_neg h1]; exact a, by simp [rget, List.find?_cons, hm] at b ⊢; exact b⟩
      · exact .inr ⟨t', c', l', by rw [valV_neg h1]; exact a, by simp [rget, List.find?_cons, hm] at b ⊢; exact b, d⟩
theorem RR.app {H : Hp} {n : Str} {t : Addr} {c l : Int} (e : H t = some (.tup [.int c, .int l])) : ∀ {kvs : List (Key × V)} {rs : Rws}, RR H kvs rs → RR H (kvs ++ [(.inr n, .ref t)]) (rs ++ [(n, c, l)])
  | [], [], _ => ⟨rfl, ⟨t, rfl, e⟩, trivial⟩
  | [], _ :: _, h => h.elim
  | _ :: _, [], h => h.elim
  | (k, v) :: kvs, (m, c', l') :: rs, h => ⟨h.1, h.2.1, RR.app e h.2.2⟩
theorem RR.map {H : Hp} {n : Str} {t : Addr} {c l : Int} (e : H t = some (.tup [.int c, .int l])) : ∀ {kvs : List (Key × V)} {rs : Rws}, RR H kvs rs → RR H (kvs.map fun kv => if kv.1 = .inr n then (kv.1, V.ref t) else kv) (rs.map fun r => if r.1 = n then (r.1, c, l) else r)
  | [], [], _ => trivial
  | [], _ :: _, h => h.elim
  | _ :: _, [], h => h.elim
  | (k, v) :: kvs, (m, c', l') :: rs, h => by
    obtain ⟨rfl, q, r⟩ := h
    by_cases hm : m = n
    · simp only [List.map_cons, Sum.inr.injEq, hm, if_true]
      exact ⟨rfl, ⟨t, rfl, e⟩, RR.map e r⟩
    · simp only [List.map_cons, Sum.inr.injEq, hm, if_false]
      exact ⟨rfl, q, RR.map e r⟩
theorem RR.put {H : Hp} {n : Str} {t : Addr} {c l : Int} {kvs : List (Key × V)} {rs : Rws} (e : H t = some (.tup [.int c, .int l])) (h : RR H kvs rs) : RR H (putK kvs (.inr n) (.ref t)) (rput rs n (c, l)) := by
  unfold putK rput
  rw [RR.any n h]
  split
  · exact RR.map e h
  · exact RR.app e h
theorem RR.drop {H : Hp} (n : Str) : ∀ {kvs : List (Key × V)} {rs : Rws}, RR H kvs rs → RR H (dropK kvs (.inr n)) (rdrop rs n)
  | [], [], _ => trivial
  | [], _ :: _, h => h.elim
  | _ :: _, [], h => h.elim
  | (k, v) :: kvs, (m, c', l') :: rs, h => by
    obtain ⟨rfl, q, r⟩ := h
    by_cases hm : m = n
    · have e1 : dropK ((Sum.inr m, v) :: kvs) (Sum.inr n : Key) = dropK kvs (.inr n) := dropK_pos (by rw [hm])
      rw [e1]
      simp only [rdrop, List.filter_cons, hm, ne_eq, not_true, decide_false, Bool.false_eq_true, if_false]
      exact RR.drop n r
    · have e1 : dropK ((Sum.inr m, v) :: kvs) (Sum.inr n : Key) = (Sum.inr m, v) :: dropK kvs (.inr n) := dropK_neg (fun z => hm (Sum.inr.inj z))
      rw [e1]
      simp only [rdrop, List.filter_cons, hm, ne_eq, not_false_eq_true, decide_true, if_true]
      exact ⟨rfl, q, RR.drop n r⟩
theorem rput_len (rs : Rws) (n : Str) (p : Int × Int) : (rput rs n p).length ≤ rs.length + 1 := by
  unfold rput; split <;> simp
/-- a dict of such rows at d -/
def RAt (H : Hp) (d : Addr) (rs : Rws) : Prop := ∃ kvs, H d = some (.dK kvs) ∧ RR H kvs rs
theorem RAt.ex {H H' : Hp} {d : Addr} {rs : Rws} (x : Ex H H') (h : RAt H d rs) : RAt H' d rs := by
  obtain ⟨kvs, e, r⟩ := h
  exact ⟨kvs, x _ _ e, r.tp x.tp⟩
/-- one statement: what comes behind is a name -/
theorem seq_ {t u : TS} {D : Ends} {σ : St} {H : Hp} (h : ∀ N : St → Hp → Prop, (∀ σ H, u D σ H → N σ H) → t { D with nx := N } σ H) : tSeq t u D σ H := h _ fun _ _ q => q
theorem lk1 {f m : Str} {v : V} (h : (m == f) = false) : List.lookup m [(f, v)] = none := by
  simp only [List.lookup, h]
/-! ## a dict's looks by a text -/
section
variable {K : PySem.W.Frag} {H : Hp} {a : Addr} {Q : VK}
theorem in_dS {kvs : List (Key × V)} {s : Str} {b : Bool} (h : H a = some (.dK kvs)) : oIn K b (.str s) (.ref a) H Q = Q (.bl (b ^^ (valV kvs (.inr s)).isSome)) H := in_dK (k := .inr s) (.inl h)
theorem ix_dS {kvs : List (Key × V)} {s : Str} {v : V} (h : H a = some (.dK kvs)) (e : valV kvs (.inr s) = some v) : oIx K (.ref a) (.str s) H Q = Q v H := ix_dK (k := .inr s) (.inl h) e.symm
theorem ix_dSf {kvs : List (Key × V)} {s : Str} {v : V} {o : Obj} (h : H a = some (.frz o (.dK kvs))) (e : valV kvs (.inr s) = some v) : oIx K (.ref a) (.str s) H Q = Q v H := ix_dK (k := .inr s) (.inr ⟨o, h⟩) e.symm
theorem set_dS {kvs : List (Key × V)} {s : Str} {v : V} {R : Hp → Prop} (h : H a = some (.dK kvs)) (hl : kvs.length < 1000) (q : R (upd H a (.dK (putK kvs (.inr s) v)))) : oSet (.ref a) (.str s) v H R := by
  simp only [oSet, h, keyOf]
  exact ⟨Nat.lt_trans hl (small1000 (Nat.le_refl _)), q⟩
end
end WR

set_option Elab.async false
set_option linter.all false
set_option maxRecDepth 100000
set_option maxHeartbeats 4000000
/-! helpers of all laws: small numbers, loops, indexes, frames, the digit boxes -/
namespace WR
open PySem PySem.Spec PyProof.Rows L2
theorem kb_non_int : kitB "NoneType" "int" = some false := by kernel_rfl
theorem kb_non_bool : kitB "NoneType" "bool" = some false := by kernel_rfl
theorem kb_non_str : kitB "NoneType" "str" = some false := by kernel_rfl
theorem kb_non_list : kitB "NoneType" "list" = some false := by kernel_rfl
theorem kb_non_dict : kitB "NoneType" "dict" = some false := by kernel_rfl
theorem kb_non_tuple : kitB "NoneType" "tuple" = some false := by kernel_rfl
theorem kb_bool_int : kitB "bool" "int" = some true := by kernel_rfl
theorem kb_bool_bool : kitB "bool" "bool" = some true := by kernel_rfl
theorem kb_bool_str : kitB "bool" "str" = some false := by kernel_rfl
theorem kb_bool_list : kitB "bool" "list" = some false := by kernel_rfl
theorem kb_bool_dict : kitB "bool" "dict" = some false := by kernel_rfl
theorem kb_bool_tuple : kitB "bool" "tuple" = some false := by kernel_rfl
theorem kb_int_int : kitB "int" "int" = some true := by kernel_rfl
theorem kb_int_bool : kitB "int" "bool" = some false := by kernel_rfl
theorem kb_int_str : kitB "int" "str" = some false := by kernel_rfl
theorem kb_int_list : kitB "int" "list" = some false := by kernel_rfl
theorem kb_int_dict : kitB "int" "dict" = some false := by kernel_rfl
theorem kb_int_tuple : kitB "int" "tuple" = some false := by kernel_rfl
theorem kb_str_int : kitB "str" "int" = some false := by kernel_rfl
theorem kb_str_bool : kitB "str" "bool" = some false := by kernel_rfl
theorem kb_str_str : kitB "str" "str" = some true := by kernel_rfl
theorem kb_str_list : kitB "str" "list" = some false := by kernel_rfl
theorem kb_str_dict : kitB "str" "dict" = some false := by kernel_rfl
theorem kb_str_tuple : kitB "str" "tuple" = some false := by kernel_rfl
theorem kb_tuple_int : kitB "tuple" "int" = some false := by kernel_rfl
theorem kb_tuple_bool : kitB "tuple" "bool" = some false := by kernel_rfl
theorem kb_tuple_str : kitB "tuple" "str" = some false := by kernel_rfl
theorem kb_tuple_list : kitB "tuple" "list" = some false := by kernel_rfl
theorem kb_tuple_dict : kitB "tuple" "dict" = some false := by kernel_rfl
theorem kb_tuple_tuple : kitB "tuple" "tuple" = some true := by kernel_rfl
theorem kb_list_int : kitB "list" "int" = some false := by kernel_rfl
theorem kb_list_bool : kitB "list" "bool" = some false := by kernel_rfl
theorem kb_list_str : kitB "list" "str" = some false := by kernel_rfl
theorem kb_list_list : kitB "list" "list" = some true := by kernel_rfl
theorem kb_list_dict : kitB "list" "dict" = some false := by kernel_rfl
theorem kb_list_tuple : kitB "list" "tuple" = some false := by kernel_rfl
theorem kb_dict_int : kitB "dict" "int" = some false := by kernel_rfl
theorem kb_dict_bool : kitB "dict" "bool" = some false := by kernel_rfl
theorem kb_dict_str : kitB "dict" "str" = some false := by kernel_rfl
theorem kb_dict_list : kitB "dict" "list" = some false := by kernel_rfl
theorem kb_dict_dict : kitB "dict" "dict" = some true := by kernel_rfl
theorem kb_dict_tuple : kitB "dict" "tuple" = some false := by kernel_rfl
section
variable {K : PySem.W.Frag} {H H1 H' : Hp} {Q : VK} {E : XK}
theorem log_small {a : Nat} (h : a < 2 ^ 64) : a.log2 < 64 := by
  by_cases z : a = 0
  · subst z; decide
  · exact (Nat.log2_lt z).mpr h
theorem cmul_of {a b : Int} (ha : a.natAbs < 2 ^ 64) (hb : b.natAbs < 2 ^ 64) : CMulW a b := by
  unfold CMulW
  have := log_small ha
  have := log_small hb
  omega
theorem cdiv_of {a b : Int} (h0 : 0 < b) (hb : b.natAbs < 2 ^ 64) : CDivW a b := by
  unfold CDivW
  have := log_small hb
  omega
theorem mod_b {a : Int} {m : Int} (hm : 0 < m) : 0 ≤ a % m ∧ a % m < m := ⟨Int.emod_nonneg _ (by omega), Int.emod_lt_of_pos _ hm⟩
theorem ifS_ {c : TT} {t u : TS} {D : Ends} {σ : L2.St} {H : Hp} (h : ∀ A B : Hp → Prop, (∀ H, t D σ H → A H) → (∀ H, u D σ H → B H) → c σ H fun b H1 => if b = true then A H1 else B H1) : tIfS c t u D σ H := h _ _ (fun _ q => q) fun _ q => q
theorem itr_yld {lo : Int} {N i : Nat} {x : V} {H' : Hp} (h : (Itr lo N).yld i H x H') : H' = H ∧ x = .int (lo + i) := h
theorem itl_yld {l : Addr} {xs : List V} {i : Nat} {x : V} {H' : Hp} (e : H l = some (.lst xs)) (h : (Itl K l).yld i H x H') : H' = H ∧ xs[i]? = some x := ⟨h.1, h.2 xs (.inl (.inl e))⟩
theorem itl_go {l : Addr} {xs : List V} {i : Nat} (e : H l = some (.lst xs)) (hi : i < xs.length) : (Itl K l).go i H := ⟨xs, xs[i], .inl (.inl e), by simp [hi]⟩
theorem itl_stop {l : Addr} {xs : List V} {i : Nat} (e : H l = some (.lst xs)) (hi : xs.length ≤ i) : (Itl K l).stop i H := ⟨xs, .inl (.inl e), hi⟩
theorem tyB_lst {a : Addr} {xs : List V} (h : look K H a = some (.lst xs)) : tyB K H (.ref a) = some "list" := by simp only [tyB, h]
theorem tyB_dK {a : Addr} {kvs : List (Key × V)} (h : H a = some (.dK kvs)) : tyB K H (.ref a) = some "dict" := by
  simp only [tyB, look_of_dK (K := K) h, h]
theorem b_append : (bf K "append").find? (fun b => b.T == "list") = some ⟨"list", "append", "list.append", mAppend⟩ := by kernel_rfl
theorem b_extend : (bf K "extend").find? (fun b => b.T == "list") = some ⟨"list", "extend", "list.extend", mExtend⟩ := by kernel_rfl
theorem b_reverse : (bf K "reverse").find? (fun b => b.T == "list") = some ⟨"list", "reverse", "list.reverse", mReverse⟩ := by kernel_rfl
theorem b_index : (bf K "index").find? (fun b => b.T == "list") = some ⟨"list", "index", "list.index", mIndexL K⟩ := by kernel_rfl
theorem b_clearL : (bf K "clear").find? (fun b => b.T == "list") = some ⟨"list", "clear", "list.clear", mClearL⟩ := by kernel_rfl
theorem b_popL : (bf K "pop").find? (fun b => b.T == "list") = some ⟨"list", "pop", "list.pop", mPopL⟩ := by kernel_rfl
theorem b_get : (bf K "get").find? (fun b => b.T == "dict") = some ⟨"dict", "get", "dict.get", mGetD⟩ := by kernel_rfl
theorem b_pop : (bf K "pop").find? (fun b => b.T == "dict") = some ⟨"dict", "pop", "dict.pop", mPopD⟩ := by kernel_rfl
theorem b_clear : (bf K "clear").find? (fun b => b.T == "dict") = some ⟨"dict", "clear", "dict.clear", mClearD⟩ := by kernel_rfl
theorem b_join : (bf K "join").find? (fun b => b.T == "str") = some ⟨"str", "join", "str.join", mJoin K⟩ := by kernel_rfl
theorem oGet_mono {p : Addr} {y : V} {R R' : Option V → Prop} (h : ∀ o, R o → R' o) (q : oGet H p y R) : oGet H p y R' := by
  unfold oGet at q ⊢
  split at q
  · split at q
    · rename_i e; exact h _ q
    · exact q.elim
  · split at q
    · rename_i e; exact h _ q
    · exact q.elim
  · obtain ⟨k, b, e1, e2, q⟩ := q; exact ⟨k, b, e1, e2, h _ q⟩
  · obtain ⟨k, b, e1, e2, q⟩ := q; exact ⟨k, b, e1, e2, h _ q⟩
  · exact q.elim
theorem oIx_mono {x y : V} {P P' : V → Hp → Prop} (h : ∀ x H, P x H → P' x H) (q : oIx K x y H P) : oIx K x y H P' := by
  unfold oIx at q ⊢
  split at q
  · split at q
    · split at q
      · split at q
        · exact h _ _ q
        · exact q.elim
      · exact q.elim
    · split at q
      · split at q
        · exact h _ _ q
        · exact q.elim
      · exact q.elim
    · exact oGet_mono (fun o z => by
        cases o with
        | none => exact z
        | some v => exact h _ _ z) q
  · split at q
    · refine ⟨q.1, ?_⟩
      have q2 := q.2
      split at q2
      · exact h _ _ q2
      · exact q2.elim
    · exact q.elim
  · exact q.elim
theorem mono_ix {i j : Nat} {σ : L2.St} {P P' : V → Hp → Prop} (h : ∀ x H, P x H → P' x H) (q : tOp (oIx K) (cVar i) (cVar j) σ H P) : tOp (oIx K) (cVar i) (cVar j) σ H P' := by
  simp only [tOp] at q ⊢
  exact mono_var (fun x H1 q1 => mono_var (fun y H2 q2 => oIx_mono h q2) q1) q
theorem mono_ixC {i : Nat} {v : V} {σ : L2.St} {P P' : V → Hp → Prop} (h : ∀ x H, P x H → P' x H) (q : tOp (oIx K) (cVar i) (tC v) σ H P) : tOp (oIx K) (cVar i) (tC v) σ H P' := by
  simp only [tOp, tC] at q ⊢
  exact mono_var (fun x H1 q1 => oIx_mono h q1) q
theorem mono_ixCC {i : Nat} {v w : V} {σ : L2.St} {P P' : V → Hp → Prop} (h : ∀ x H, P x H → P' x H) (q : tOp (oIx K) (tOp (oIx K) (cVar i) (tC v)) (tC w) σ H P) : tOp (oIx K) (tOp (oIx K) (cVar i) (tC v)) (tC w) σ H P' := by
  simp only [tOp, tC] at q ⊢
  exact mono_var (fun x H1 q1 => oIx_mono (fun y H2 q2 => oIx_mono h q2) q1) q
theorem mono_attr {c : List Addr} {f : Str} {i : Nat} {σ : L2.St} {P P' : V → Hp → Prop} (h : ∀ x H, P x H → P' x H) (q : cAttr c f (cVar i) σ H P) : cAttr c f (cVar i) σ H P' := by
  unfold cAttr at q ⊢
  refine mono_var (fun x H1 q1 => ?_) q
  split at q1
  · rename_i a C fs e
    obtain ⟨hc, q1⟩ := q1
    refine ⟨hc, ?_⟩
    split at q1
    · exact h _ _ q1
    · exact q1.elim
  · exact q1.elim
theorem two_ix {bl : Addr} {x y : V} {c : Int} (h : H bl = some (.lst [x, y])) (q : Q (if c % 2 = 1 then y else x) H) : oIx K (.ref bl) (.int (c % 2)) H Q := by
  have m2 := mod_b (a := c) (m := 2) (by decide)
  rcases (by omega : c % 2 = 0 ∨ c % 2 = 1) with e | e
  · rw [e] at q ⊢
    rw [ix_lst (look_of_lst h) (v := x) rfl]
    simpa using q
  · rw [e] at q ⊢
    rw [ix_lst (look_of_lst h) (v := y) rfl]
    simpa using q
/-! ## frames -/
/-- all that is tracked stays, but what stands at the addresses of l -/
def Fr (l : List Addr) (H H' : Hp) : Prop := ∀ a o, a ∉ l → H a = some o → H' a = some o
theorem Fr.refl {l : List Addr} : Fr l H H := fun _ _ _ e => e
theorem Fr.ex {l : List Addr} (x : Ex H H') : Fr l H H' := fun a o _ e => x a o e
theorem Fr.to_ex (x : Fr [] H H') : Ex H H' := fun a o e => x a o (by simp) e
theorem Fr.trans {l : List Addr} (x : Fr l H H1) (z : Fr l H1 H') : Fr l H H' := fun a o n e => z a o n (x a o n e)
theorem Fr.mono {l m : List Addr} (x : Fr l H H') (h : ∀ a ∈ l, a ∈ m) : Fr m H H' := fun a o n e => x a o (fun z => n (h a z)) e
theorem Fr.put {l : List Addr} {a : Addr} {o : HO} (x : Fr l H H1) (h : a ∈ l) : Fr l H (upd H1 a o) := fun b u n e => by
  rw [upd_ne (fun z => n (by rw [z]; exact h))]; exact x b u n e
theorem Fr.new {l : List Addr} {a : Addr} {o : HO} (x : Fr l H H1) (h : H1 a = none) : Fr l H (upd H1 a o) := fun b u n e => by
  rw [upd_ne (fun z => by rw [z] at e; have := x a u (fun m => n (by rw [z]; exact m)) e; rw [h] at this; cases this)]; exact x b u n e
end
end WR

set_option Elab.async false
set_option linter.all false
set_option maxRecDepth 100000
set_option maxHeartbeats 4000000
/-! the digit boxes of the laws -/
namespace WR
open PySem PySem.Spec PyProof.Rows L2
section
variable {K : PySem.W.Frag} {H H1 H' : Hp} {Q : VK} {E : XK}
def takeR (K : PySem.W.Frag) (k1 s1 e1 m1 d1 k2 s2 e2 m2 d2 k3 d3 : Int) : TS :=
  (tSeq (tIfS (cTest (tOp (oGtK K) (tOp (oIx K) (cVar 0) (tC (.int 0))) (tC (.int 0))))
  (tSeq (tAsg (tOp oMod (tOp (oIx K) (cVar 0) (tC (.int 0))) (cVar 1)) (gName 4))
  (tSeq (tAsg (tOp oFdiv (tOp (oIx K) (cVar 0) (tC (.int 0))) (cVar 1)) (gSub (cVar 0) (tC (.int 0)) oSet))
  (tRet (cVar 4))))
  tNext)
  (tSeq (tAsg (tOp (oAdd K) (tOp (oIx K) (cVar 0) (tC (.int 2))) (tC (.int 1))) (gSub (cVar 0) (tC (.int 2)) oSet))
  (tSeq (tAsg (tOp oMod (tOp oPow (tOp (oAdd K) (tOp (oAdd K) (tOp (oIx K) (cVar 0) (tC (.int 1))) (tOp oMul (tC (.int k1)) (tOp (oIx K) (cVar 0) (tC (.int 2))))) (tC (.int s1))) (tC (.int e1))) (tC (.int m1))) (gName 2))
  (tSeq (tAsg (tOp oMod (tOp oPow (tOp (oAdd K) (tOp (oAdd K) (tOp oFdiv (cVar 2) (tC (.int d1))) (tOp oMul (tOp oMul (tC (.int k2)) (tOp (oIx K) (cVar 0) (tC (.int 2)))) (tOp (oIx K) (cVar 0) (tC (.int 2))))) (tC (.int s2))) (tC (.int e2))) (tC (.int m2))) (gName 3))
  (tRet (tOp oMod (tOp (oAdd K) (tOp oFdiv (cVar 2) (tC (.int d2))) (tOp oMul (tC (.int k3)) (tOp oFdiv (cVar 3) (tC (.int d3))))) (cVar 1)))))))
/-- a box that has given at most N drawn digits -/
def Bx (H : Hp) (b : Addr) (N : Nat) : Prop := ∃ a o c : Int, H b = some (.lst [.int a, .int o, .int c]) ∧ 0 ≤ a ∧ 0 ≤ o ∧ o < 2 ^ 31 ∧ 0 ≤ c ∧ c ≤ N
theorem Bx.mono {b : Addr} {N M : Nat} (h : Bx H b N) (l : N ≤ M) : Bx H b M := by
  obtain ⟨a, o, c, e, h1, h2, h3, h4, h5⟩ := h
  exact ⟨a, o, c, e, h1, h2, h3, h4, by omega⟩
theorem Bx.ex {b : Addr} {N : Nat} (x : Ex H H') (h : Bx H b N) : Bx H' b N := by
  obtain ⟨a, o, c, e, h1, h2, h3, h4, h5⟩ := h
  exact ⟨a, o, c, x _ _ e, h1, h2, h3, h4, h5⟩
theorem Bx.fr {b : Addr} {N : Nat} {l : List Addr} (x : Fr l H H') (n : b ∉ l) (h : Bx H b N) : Bx H' b N := by
  obtain ⟨a, o, c, e, h1, h2, h3, h4, h5⟩ := h
  exact ⟨a, o, c, x _ _ n e, h1, h2, h3, h4, h5⟩
theorem mul_lt {a b x y : Int} (h0 : 0 ≤ a) (h1 : a < x) (h2 : 0 ≤ b) (h3 : b < y) : 0 ≤ a * b ∧ a * b < x * y := by
  refine ⟨Int.mul_nonneg h0 h2, ?_⟩
  have e1 : a * b ≤ a * y := Int.mul_le_mul_of_nonneg_left (by omega) h0
  have e2 : a * y < x * y := Int.mul_lt_mul_of_pos_right h1 (by omega)
  omega
theorem take_ok {k1 s1 e1 m1 d1 k2 s2 e2 m2 d2 k3 d3 : Int} {b : Addr} {N : Nat} {many : Int} {D : Ends} (hx : Bx H b N) (hN : N < 100000) (h1 : 1 ≤ many) (h2 : many < 2 ^ 60)
    (c1 : 0 ≤ k1 ∧ k1 < 2 ^ 30) (c2 : 0 ≤ s1 ∧ s1 < 2 ^ 30) (c3 : 0 ≤ e1 ∧ e1 ≤ 10) (c4 : 0 < m1 ∧ m1 < 2 ^ 32) (c5 : 0 < d1 ∧ d1 < 2 ^ 32) (c6 : 0 ≤ k2 ∧ k2 < 2 ^ 28) (c7 : 0 ≤ s2 ∧ s2 < 2 ^ 30) (c8 : 0 ≤ e2 ∧ e2 ≤ 10)
    (c9 : 0 < m2 ∧ m2 < 2 ^ 32) (c10 : 0 < d2 ∧ d2 < 2 ^ 32) (c11 : 0 ≤ k3 ∧ k3 < 2 ^ 32) (c12 : 0 < d3 ∧ d3 < 2 ^ 32)
    (h : ∀ r H', 0 ≤ r → r < many → Bx H' b (N + 1) → Fr [b] H H' → D.rt (.int r) H') : takeR K k1 s1 e1 m1 d1 k2 s2 e2 m2 d2 k3 d3 D [some (.ref b), some (.int many), none, none, none] H := by
  obtain ⟨a, o, c, e, a0, o0, o1, n0, n1⟩ := hx
  unfold takeR
  refine seq_ fun N1 g1 => ifS_ fun A B hA hB => ?_
  simp only [cTest, tSeq, tIfS, tNext, tRet, tRetN, tDrop, tAsg, tC, cVar, tOp, tCB, tCons, tNil, tTup, tLst, tIf, tAnd, tOr, tNot, cTest, cTru, oTru, cAnd, cOr, cNot, cUn, cChain, gName, cTupG, gCons, gNil, gSub, oLt, oLtK, oLe, oGt, oGe, oGtK, oGeK, oBor, oIs, oIsNot, oSub, oMul, oFdiv, oMod, oPow, cPar, cPar3, cAug, tDNewK, cCall, cAttr, frzE, List.mem_singleton, List.lookup_cons_self, List.getElem?_cons_zero, List.getElem?_cons_succ, List.set_cons_zero, List.set_cons_succ, Option.some.injEq, reduceCtorEq, if_true, if_false, Bool.true_eq_false, Bool.false_eq_true, decide_eq_true_eq, ite_true, ite_false, ↓reduceIte, List.length_cons, List.length_nil, true_and, and_true, exists_eq_left', exists_eq_left, List.cons.injEq]
  rw [ix_lst (look_of_lst e) (v := .int a) rfl]
  try simp only [tSeq, tIfS, tNext, tRet, tRetN, tDrop, tAsg, tC, cVar, tOp, tCB, tCons, tNil, tTup, tLst, tIf, tAnd, tOr, tNot, cTest, cTru, oTru, cAnd, cOr, cNot, cUn, cChain, gName, cTupG, gCons, gNil, gSub, oLt, oLtK, oLe, oGt, oGe, oGtK, oGeK, oBor, oIs, oIsNot, oSub, oMul, oFdiv, oMod, oPow, cPar, cPar3, cAug, tDNewK, cCall, cAttr, frzE, List.mem_singleton, List.lookup_cons_self, List.getElem?_cons_zero, List.getElem?_cons_succ, List.set_cons_zero, List.set_cons_succ, Option.some.injEq, reduceCtorEq, if_true, if_false, Bool.true_eq_false, Bool.false_eq_true, decide_eq_true_eq, ite_true, ite_false, ↓reduceIte, List.length_cons, List.length_nil, true_and, and_true, exists_eq_left', exists_eq_left, List.cons.injEq]
  by_cases az : 0 < a
  · rw [if_pos az]
    refine hA _ (seq_ fun N2 g2 => ?_)
    try simp only [tSeq, tIfS, tNext, tRet, tRetN, tDrop, tAsg, tC, cVar, tOp, tCB, tCons, tNil, tTup, tLst, tIf, tAnd, tOr, tNot, cTest, cTru, oTru, cAnd, cOr, cNot, cUn, cChain, gName, cTupG, gCons, gNil, gSub, oLt, oLtK, oLe, oGt, oGe, oGtK, oGeK, oBor, oIs, oIsNot, oSub, oMul, oFdiv, oMod, oPow, cPar, cPar3, cAug, tDNewK, cCall, cAttr, frzE, List.mem_singleton, List.lookup_cons_self, List.getElem?_cons_zero, List.getElem?_cons_succ, List.set_cons_zero, List.set_cons_succ, Option.some.injEq, reduceCtorEq, if_true, if_false, Bool.true_eq_false, Bool.false_eq_true, decide_eq_true_eq, ite_true, ite_false, ↓reduceIte, List.length_cons, List.length_nil, true_and, and_true, exists_eq_left', exists_eq_left, List.cons.injEq]
    rw [ix_lst (look_of_lst e) (v := .int a) rfl]
    try simp only [tSeq, tIfS, tNext, tRet, tRetN, tDrop, tAsg, tC, cVar, tOp, tCB, tCons, tNil, tTup, tLst, tIf, tAnd, tOr, tNot, cTest, cTru, oTru, cAnd, cOr, cNot, cUn, cChain, gName, cTupG, gCons, gNil, gSub, oLt, oLtK, oLe, oGt, oGe, oGtK, oGeK, oBor, oIs, oIsNot, oSub, oMul, oFdiv, oMod, oPow, cPar, cPar3, cAug, tDNewK, cCall, cAttr, frzE, List.mem_singleton, List.lookup_cons_self, List.getElem?_cons_zero, List.getElem?_cons_succ, List.set_cons_zero, List.set_cons_succ, Option.some.injEq, reduceCtorEq, if_true, if_false, Bool.true_eq_false, Bool.false_eq_true, decide_eq_true_eq, ite_true, ite_false, ↓reduceIte, List.length_cons, List.length_nil, true_and, and_true, exists_eq_left', exists_eq_left, List.cons.injEq]
    refine ⟨by omega, g2 _ _ (seq_ fun N3 g3 => ?_)⟩
    try simp only [tSeq, tIfS, tNext, tRet, tRetN, tDrop, tAsg, tC, cVar, tOp, tCB, tCons, tNil, tTup, tLst, tIf, tAnd, tOr, tNot, cTest, cTru, oTru, cAnd, cOr, cNot, cUn, cChain, gName, cTupG, gCons, gNil, gSub, oLt, oLtK, oLe, oGt, oGe, oGtK, oGeK, oBor, oIs, oIsNot, oSub, oMul, oFdiv, oMod, oPow, cPar, cPar3, cAug, tDNewK, cCall, cAttr, frzE, List.mem_singleton, List.lookup_cons_self, List.getElem?_cons_zero, List.getElem?_cons_succ, List.set_cons_zero, List.set_cons_succ, Option.some.injEq, reduceCtorEq, if_true, if_false, Bool.true_eq_false, Bool.false_eq_true, decide_eq_true_eq, ite_true, ite_false, ↓reduceIte, List.length_cons, List.length_nil, true_and, and_true, exists_eq_left', exists_eq_left, List.cons.injEq]
    rw [ix_lst (look_of_lst e) (v := .int a) rfl]
    try simp only [tSeq, tIfS, tNext, tRet, tRetN, tDrop, tAsg, tC, cVar, tOp, tCB, tCons, tNil, tTup, tLst, tIf, tAnd, tOr, tNot, cTest, cTru, oTru, cAnd, cOr, cNot, cUn, cChain, gName, cTupG, gCons, gNil, gSub, oLt, oLtK, oLe, oGt, oGe, oGtK, oGeK, oBor, oIs, oIsNot, oSub, oMul, oFdiv, oMod, oPow, cPar, cPar3, cAug, tDNewK, cCall, cAttr, frzE, List.mem_singleton, List.lookup_cons_self, List.getElem?_cons_zero, List.getElem?_cons_succ, List.set_cons_zero, List.set_cons_succ, Option.some.injEq, reduceCtorEq, if_true, if_false, Bool.true_eq_false, Bool.false_eq_true, decide_eq_true_eq, ite_true, ite_false, ↓reduceIte, List.length_cons, List.length_nil, true_and, and_true, exists_eq_left', exists_eq_left, List.cons.injEq]
    refine ⟨cdiv_of (by omega) (by omega), ?_⟩
    simp only [oSet, e, List.length_cons, List.length_nil]
    rw [show ixN (0 + 1 + 1 + 1) 0 = some 0 from rfl]
    refine g3 _ _ ?_
    try simp only [tSeq, tIfS, tNext, tRet, tRetN, tDrop, tAsg, tC, cVar, tOp, tCB, tCons, tNil, tTup, tLst, tIf, tAnd, tOr, tNot, cTest, cTru, oTru, cAnd, cOr, cNot, cUn, cChain, gName, cTupG, gCons, gNil, gSub, oLt, oLtK, oLe, oGt, oGe, oGtK, oGeK, oBor, oIs, oIsNot, oSub, oMul, oFdiv, oMod, oPow, cPar, cPar3, cAug, tDNewK, cCall, cAttr, frzE, List.mem_singleton, List.lookup_cons_self, List.getElem?_cons_zero, List.getElem?_cons_succ, List.set_cons_zero, List.set_cons_succ, Option.some.injEq, reduceCtorEq, if_true, if_false, Bool.true_eq_false, Bool.false_eq_true, decide_eq_true_eq, ite_true, ite_false, ↓reduceIte, List.length_cons, List.length_nil, true_and, and_true, exists_eq_left', exists_eq_left, List.cons.injEq]
    have mb := mod_b (a := a) (m := many) (by omega)
    refine h _ _ mb.1 mb.2 ⟨a / many, o, c, by rw [upd_same]; try rfl, Int.ediv_nonneg a0 (by omega), o0, o1, n0, by omega⟩ (Fr.refl.put (by simp))
  · rw [if_neg az]
    refine hB _ (g1 _ _ (seq_ fun N2 g2 => ?_))
    try simp only [tSeq, tIfS, tNext, tRet, tRetN, tDrop, tAsg, tC, cVar, tOp, tCB, tCons, tNil, tTup, tLst, tIf, tAnd, tOr, tNot, cTest, cTru, oTru, cAnd, cOr, cNot, cUn, cChain, gName, cTupG, gCons, gNil, gSub, oLt, oLtK, oLe, oGt, oGe, oGtK, oGeK, oBor, oIs, oIsNot, oSub, oMul, oFdiv, oMod, oPow, cPar, cPar3, cAug, tDNewK, cCall, cAttr, frzE, List.mem_singleton, List.lookup_cons_self, List.getElem?_cons_zero, List.getElem?_cons_succ, List.set_cons_zero, List.set_cons_succ, Option.some.injEq, reduceCtorEq, if_true, if_false, Bool.true_eq_false, Bool.false_eq_true, decide_eq_true_eq, ite_true, ite_false, ↓reduceIte, List.length_cons, List.length_nil, true_and, and_true, exists_eq_left', exists_eq_left, List.cons.injEq]
    rw [ix_lst (look_of_lst e) (v := .int c) rfl]
    simp only [oAdd, oSet, e, tSeq, tIfS, tNext, tRet, tRetN, tDrop, tAsg, tC, cVar, tOp, tCB, tCons, tNil, tTup, tLst, tIf, tAnd, tOr, tNot, cTest, cTru, oTru, cAnd, cOr, cNot, cUn, cChain, gName, cTupG, gCons, gNil, gSub, oLt, oLtK, oLe, oGt, oGe, oGtK, oGeK, oBor, oIs, oIsNot, oSub, oMul, oFdiv, oMod, oPow, cPar, cPar3, cAug, tDNewK, cCall, cAttr, frzE, List.mem_singleton, List.lookup_cons_self, List.getElem?_cons_zero, List.getElem?_cons_succ, List.set_cons_zero, List.set_cons_succ, Option.some.injEq, reduceCtorEq, if_true, if_false, Bool.true_eq_false, Bool.false_eq_true, decide_eq_true_eq, ite_true, ite_false, ↓reduceIte, List.length_cons, List.length_nil, true_and, and_true, exists_eq_left', exists_eq_left, List.cons.injEq]
    rw [show ixN (0 + 1 + 1 + 1) 2 = some 2 from rfl]
    refine g2 _ _ (seq_ fun N3 g3 => ?_)
    have ee : (upd H b (.lst ([V.int a, V.int o, V.int c].set 2 (.int (c + 1))))) b = some (.lst [.int a, .int o, .int (c + 1)]) := by rw [upd_same]; try rfl
    have fr : Fr [b] H (upd H b (.lst ([V.int a, V.int o, V.int c].set 2 (.int (c + 1))))) := Fr.refl.put (by simp)
    generalize upd H b (.lst ([V.int a, V.int o, V.int c].set 2 (.int (c + 1)))) = H2 at ee fr ⊢
    obtain ⟨C, hC⟩ : ∃ C, C = c + 1 := ⟨_, rfl⟩
    rw [← hC] at ee
    have q1 := mul_lt (a := k1) (b := C) (x := 2 ^ 30) (y := 2 ^ 17) (by omega) (by omega) (by omega) (by omega)
    have q2 := mul_lt (a := k2) (b := C) (x := 2 ^ 28) (y := 2 ^ 17) (by omega) (by omega) (by omega) (by omega)
    have q3 := mul_lt (a := k2 * C) (b := C) (x := 2 ^ 28 * 2 ^ 17) (y := 2 ^ 17) (by omega) (by omega) (by omega) (by omega)
    try simp only [tSeq, tIfS, tNext, tRet, tRetN, tDrop, tAsg, tC, cVar, tOp, tCB, tCons, tNil, tTup, tLst, tIf, tAnd, tOr, tNot, cTest, cTru, oTru, cAnd, cOr, cNot, cUn, cChain, gName, cTupG, gCons, gNil, gSub, oLt, oLtK, oLe, oGt, oGe, oGtK, oGeK, oBor, oIs, oIsNot, oSub, oMul, oFdiv, oMod, oPow, cPar, cPar3, cAug, tDNewK, cCall, cAttr, frzE, List.mem_singleton, List.lookup_cons_self, List.getElem?_cons_zero, List.getElem?_cons_succ, List.set_cons_zero, List.set_cons_succ, Option.some.injEq, reduceCtorEq, if_true, if_false, Bool.true_eq_false, Bool.false_eq_true, decide_eq_true_eq, ite_true, ite_false, ↓reduceIte, List.length_cons, List.length_nil, true_and, and_true, exists_eq_left', exists_eq_left, List.cons.injEq]
    rw [ix_lst (look_of_lst ee) (v := .int o) rfl]
    try simp only [tSeq, tIfS, tNext, tRet, tRetN, tDrop, tAsg, tC, cVar, tOp, tCB, tCons, tNil, tTup, tLst, tIf, tAnd, tOr, tNot, cTest, cTru, oTru, cAnd, cOr, cNot, cUn, cChain, gName, cTupG, gCons, gNil, gSub, oLt, oLtK, oLe, oGt, oGe, oGtK, oGeK, oBor, oIs, oIsNot, oSub, oMul, oFdiv, oMod, oPow, cPar, cPar3, cAug, tDNewK, cCall, cAttr, frzE, List.mem_singleton, List.lookup_cons_self, List.getElem?_cons_zero, List.getElem?_cons_succ, List.set_cons_zero, List.set_cons_succ, Option.some.injEq, reduceCtorEq, if_true, if_false, Bool.true_eq_false, Bool.false_eq_true, decide_eq_true_eq, ite_true, ite_false, ↓reduceIte, List.length_cons, List.length_nil, true_and, and_true, exists_eq_left', exists_eq_left, List.cons.injEq]
    rw [ix_lst (look_of_lst ee) (v := .int C) rfl]
    simp only [oAdd, tSeq, tIfS, tNext, tRet, tRetN, tDrop, tAsg, tC, cVar, tOp, tCB, tCons, tNil, tTup, tLst, tIf, tAnd, tOr, tNot, cTest, cTru, oTru, cAnd, cOr, cNot, cUn, cChain, gName, cTupG, gCons, gNil, gSub, oLt, oLtK, oLe, oGt, oGe, oGtK, oGeK, oBor, oIs, oIsNot, oSub, oMul, oFdiv, oMod, oPow, cPar, cPar3, cAug, tDNewK, cCall, cAttr, frzE, List.mem_singleton, List.lookup_cons_self, List.getElem?_cons_zero, List.getElem?_cons_succ, List.set_cons_zero, List.set_cons_succ, Option.some.injEq, reduceCtorEq, if_true, if_false, Bool.true_eq_false, Bool.false_eq_true, decide_eq_true_eq, ite_true, ite_false, ↓reduceIte, List.length_cons, List.length_nil, true_and, and_true, exists_eq_left', exists_eq_left, List.cons.injEq]
    refine ⟨cmul_of (by omega) (by omega), ⟨by omega, by omega, by omega⟩, by omega, g3 _ _ (seq_ fun N4 g4 => ?_)⟩
    have mb := mod_b (a := (o + k1 * C + s1) ^ e1.toNat) (m := m1) (by omega)
    generalize (o + k1 * C + s1) ^ e1.toNat % m1 = one at mb ⊢
    try simp only [tSeq, tIfS, tNext, tRet, tRetN, tDrop, tAsg, tC, cVar, tOp, tCB, tCons, tNil, tTup, tLst, tIf, tAnd, tOr, tNot, cTest, cTru, oTru, cAnd, cOr, cNot, cUn, cChain, gName, cTupG, gCons, gNil, gSub, oLt, oLtK, oLe, oGt, oGe, oGtK, oGeK, oBor, oIs, oIsNot, oSub, oMul, oFdiv, oMod, oPow, cPar, cPar3, cAug, tDNewK, cCall, cAttr, frzE, List.mem_singleton, List.lookup_cons_self, List.getElem?_cons_zero, List.getElem?_cons_succ, List.set_cons_zero, List.set_cons_succ, Option.some.injEq, reduceCtorEq, if_true, if_false, Bool.true_eq_false, Bool.false_eq_true, decide_eq_true_eq, ite_true, ite_false, ↓reduceIte, List.length_cons, List.length_nil, true_and, and_true, exists_eq_left', exists_eq_left, List.cons.injEq]
    have dv : 0 ≤ one / d1 ∧ one / d1 ≤ one := ⟨Int.ediv_nonneg mb.1 (by omega), Int.ediv_le_self _ mb.1⟩
    refine ⟨cdiv_of (by omega) (by omega), ?_⟩
    rw [ix_lst (look_of_lst ee) (v := .int C) rfl]
    try simp only [tSeq, tIfS, tNext, tRet, tRetN, tDrop, tAsg, tC, cVar, tOp, tCB, tCons, tNil, tTup, tLst, tIf, tAnd, tOr, tNot, cTest, cTru, oTru, cAnd, cOr, cNot, cUn, cChain, gName, cTupG, gCons, gNil, gSub, oLt, oLtK, oLe, oGt, oGe, oGtK, oGeK, oBor, oIs, oIsNot, oSub, oMul, oFdiv, oMod, oPow, cPar, cPar3, cAug, tDNewK, cCall, cAttr, frzE, List.mem_singleton, List.lookup_cons_self, List.getElem?_cons_zero, List.getElem?_cons_succ, List.set_cons_zero, List.set_cons_succ, Option.some.injEq, reduceCtorEq, if_true, if_false, Bool.true_eq_false, Bool.false_eq_true, decide_eq_true_eq, ite_true, ite_false, ↓reduceIte, List.length_cons, List.length_nil, true_and, and_true, exists_eq_left', exists_eq_left, List.cons.injEq]
    refine ⟨cmul_of (by omega) (by omega), ?_⟩
    rw [ix_lst (look_of_lst ee) (v := .int C) rfl]
    simp only [oAdd, tSeq, tIfS, tNext, tRet, tRetN, tDrop, tAsg, tC, cVar, tOp, tCB, tCons, tNil, tTup, tLst, tIf, tAnd, tOr, tNot, cTest, cTru, oTru, cAnd, cOr, cNot, cUn, cChain, gName, cTupG, gCons, gNil, gSub, oLt, oLtK, oLe, oGt, oGe, oGtK, oGeK, oBor, oIs, oIsNot, oSub, oMul, oFdiv, oMod, oPow, cPar, cPar3, cAug, tDNewK, cCall, cAttr, frzE, List.mem_singleton, List.lookup_cons_self, List.getElem?_cons_zero, List.getElem?_cons_succ, List.set_cons_zero, List.set_cons_succ, Option.some.injEq, reduceCtorEq, if_true, if_false, Bool.true_eq_false, Bool.false_eq_true, decide_eq_true_eq, ite_true, ite_false, ↓reduceIte, List.length_cons, List.length_nil, true_and, and_true, exists_eq_left', exists_eq_left, List.cons.injEq]
    refine ⟨cmul_of (by omega) (by omega), ⟨by omega, by omega, by omega⟩, by omega, g4 _ _ ?_⟩
    have mb2 := mod_b (a := (one / d1 + k2 * C * C + s2) ^ e2.toNat) (m := m2) (by omega)
    generalize (one / d1 + k2 * C * C + s2) ^ e2.toNat % m2 = oth at mb2 ⊢
    simp only [oAdd, tSeq, tIfS, tNext, tRet, tRetN, tDrop, tAsg, tC, cVar, tOp, tCB, tCons, tNil, tTup, tLst, tIf, tAnd, tOr, tNot, cTest, cTru, oTru, cAnd, cOr, cNot, cUn, cChain, gName, cTupG, gCons, gNil, gSub, oLt, oLtK, oLe, oGt, oGe, oGtK, oGeK, oBor, oIs, oIsNot, oSub, oMul, oFdiv, oMod, oPow, cPar, cPar3, cAug, tDNewK, cCall, cAttr, frzE, List.mem_singleton, List.lookup_cons_self, List.getElem?_cons_zero, List.getElem?_cons_succ, List.set_cons_zero, List.set_cons_succ, Option.some.injEq, reduceCtorEq, if_true, if_false, Bool.true_eq_false, Bool.false_eq_true, decide_eq_true_eq, ite_true, ite_false, ↓reduceIte, List.length_cons, List.length_nil, true_and, and_true, exists_eq_left', exists_eq_left, List.cons.injEq]
    have dv2 : 0 ≤ oth / d3 ∧ oth / d3 ≤ oth := ⟨Int.ediv_nonneg mb2.1 (by omega), Int.ediv_le_self _ mb2.1⟩
    refine ⟨cdiv_of (by omega) (by omega), cdiv_of (by omega) (by omega), cmul_of (by omega) (by omega), by omega, ?_⟩
    have mb3 := mod_b (a := one / d2 + k3 * (oth / d3)) (m := many) (by omega)
    exact h _ _ mb3.1 mb3.2 ⟨a, o, C, ee, a0, o0, o1, by omega, by omega⟩ fr
def cellR (K : PySem.W.Frag) (g : G) (k s : Int) : TS :=
  (tSeq (tIfS (cTest (tOp oLt (cVar 1) (tCB (bLenG g) (tCons (cVar 0) tNil))))
  (tRet (tOp (oIx K) (cVar 0) (cVar 1)))
  tNext)
  (tRet (tOp (oAdd K) (tOp oMul (tC (.int k)) (cVar 1)) (tC (.int s)))))
theorem cell_ok {g : G} {k s : Int} {a : Addr} {ns : List Int} {j : Nat} {D : Ends} (hg : g.K = K) (hl : look K H a = some (.lst (ns.map V.int))) (hk : 0 ≤ k ∧ k < 2 ^ 32) (hj : j < 2 ^ 32) (h : ∀ c, D.rt (.int c) H) :
    cellR K g k s D [some (.ref a), some (.int j)] H := by
  unfold cellR
  refine seq_ fun N1 g1 => ifS_ fun A B hA hB => ?_
  try simp only [tSeq, tIfS, tNext, tRet, tRetN, tDrop, tAsg, tC, cVar, tOp, tCB, tCons, tNil, tTup, tLst, tIf, tAnd, tOr, tNot, cTest, cTru, oTru, cAnd, cOr, cNot, cUn, cChain, gName, cTupG, gCons, gNil, gSub, oLt, oLtK, oLe, oGt, oGe, oGtK, oGeK, oBor, oIs, oIsNot, oSub, oMul, oFdiv, oMod, oPow, cPar, cPar3, cAug, tDNewK, cCall, cAttr, frzE, List.mem_singleton, List.lookup_cons_self, List.getElem?_cons_zero, List.getElem?_cons_succ, List.set_cons_zero, List.set_cons_succ, Option.some.injEq, reduceCtorEq, if_true, if_false, Bool.true_eq_false, Bool.false_eq_true, decide_eq_true_eq, ite_true, ite_false, ↓reduceIte, List.length_cons, List.length_nil, true_and, and_true, exists_eq_left', exists_eq_left, List.cons.injEq]
  rw [len_lst hg hl]
  simp only [tSeq, tIfS, tNext, tRet, tRetN, tDrop, tAsg, tC, cVar, tOp, tCB, tCons, tNil, tTup, tLst, tIf, tAnd, tOr, tNot, cTest, cTru, oTru, cAnd, cOr, cNot, cUn, cChain, gName, cTupG, gCons, gNil, gSub, oLt, oLtK, oLe, oGt, oGe, oGtK, oGeK, oBor, oIs, oIsNot, oSub, oMul, oFdiv, oMod, oPow, cPar, cPar3, cAug, tDNewK, cCall, cAttr, frzE, List.mem_singleton, List.lookup_cons_self, List.getElem?_cons_zero, List.getElem?_cons_succ, List.set_cons_zero, List.set_cons_succ, Option.some.injEq, reduceCtorEq, if_true, if_false, Bool.true_eq_false, Bool.false_eq_true, decide_eq_true_eq, ite_true, ite_false, ↓reduceIte, List.length_cons, List.length_nil, true_and, and_true, exists_eq_left', exists_eq_left, List.cons.injEq, List.length_map]
  by_cases c : j < ns.length
  · rw [if_pos (by exact_mod_cast c)]
    refine hA _ ?_
    simp only [tSeq, tIfS, tNext, tRet, tRetN, tDrop, tAsg, tC, cVar, tOp, tCB, tCons, tNil, tTup, tLst, tIf, tAnd, tOr, tNot, cTest, cTru, oTru, cAnd, cOr, cNot, cUn, cChain, gName, cTupG, gCons, gNil, gSub, oLt, oLtK, oLe, oGt, oGe, oGtK, oGeK, oBor, oIs, oIsNot, oSub, oMul, oFdiv, oMod, oPow, cPar, cPar3, cAug, tDNewK, cCall, cAttr, frzE, List.mem_singleton, List.lookup_cons_self, List.getElem?_cons_zero, List.getElem?_cons_succ, List.set_cons_zero, List.set_cons_succ, Option.some.injEq, reduceCtorEq, if_true, if_false, Bool.true_eq_false, Bool.false_eq_true, decide_eq_true_eq, ite_true, ite_false, ↓reduceIte, List.length_cons, List.length_nil, true_and, and_true, exists_eq_left', exists_eq_left, List.cons.injEq]
    rw [ix_lst hl (v := .int (ns.getD j 0)) (by rw [atI_nat]; simp [c])]
    exact h _
  · rw [if_neg (by exact_mod_cast c)]
    refine hB _ (g1 _ _ ?_)
    simp only [oAdd, tSeq, tIfS, tNext, tRet, tRetN, tDrop, tAsg, tC, cVar, tOp, tCB, tCons, tNil, tTup, tLst, tIf, tAnd, tOr, tNot, cTest, cTru, oTru, cAnd, cOr, cNot, cUn, cChain, gName, cTupG, gCons, gNil, gSub, oLt, oLtK, oLe, oGt, oGe, oGtK, oGeK, oBor, oIs, oIsNot, oSub, oMul, oFdiv, oMod, oPow, cPar, cPar3, cAug, tDNewK, cCall, cAttr, frzE, List.mem_singleton, List.lookup_cons_self, List.getElem?_cons_zero, List.getElem?_cons_succ, List.set_cons_zero, List.set_cons_succ, Option.some.injEq, reduceCtorEq, if_true, if_false, Bool.true_eq_false, Bool.false_eq_true, decide_eq_true_eq, ite_true, ite_false, ↓reduceIte, List.length_cons, List.length_nil, true_and, and_true, exists_eq_left', exists_eq_left, List.cons.injEq]
    exact ⟨cmul_of (by omega) (by omega), h _⟩
def boxR (M : Int) : TS :=
  (tRet (tLst (tCons (tCB (bMax) (tCons (tC (.int 0)) (tCons (tOp oSub (cVar 0) (tOp oPow (tC (.int 10)) (tC (.int 18)))) tNil))) (tCons (tOp oMod (cVar 0) (tC (.int M))) (tCons (tC (.int 0)) tNil)))))
theorem box_ok {M c : Int} {D : Ends} (hM : 0 < M ∧ M < 2 ^ 31) (h : ∀ b H', H b = none → Ex H H' → Bx H' b 0 → D.rt (.ref b) H') : boxR M D [some (.int c)] H := by
  unfold boxR
  simp only [bMax, tSeq, tIfS, tNext, tRet, tRetN, tDrop, tAsg, tC, cVar, tOp, tCB, tCons, tNil, tTup, tLst, tIf, tAnd, tOr, tNot, cTest, cTru, oTru, cAnd, cOr, cNot, cUn, cChain, gName, cTupG, gCons, gNil, gSub, oLt, oLtK, oLe, oGt, oGe, oGtK, oGeK, oBor, oIs, oIsNot, oSub, oMul, oFdiv, oMod, oPow, cPar, cPar3, cAug, tDNewK, cCall, cAttr, frzE, List.mem_singleton, List.lookup_cons_self, List.getElem?_cons_zero, List.getElem?_cons_succ, List.set_cons_zero, List.set_cons_succ, Option.some.injEq, reduceCtorEq, if_true, if_false, Bool.true_eq_false, Bool.false_eq_true, decide_eq_true_eq, ite_true, ite_false, ↓reduceIte, List.length_cons, List.length_nil, true_and, and_true, exists_eq_left', exists_eq_left, List.cons.injEq]
  have mb := mod_b (a := c) (m := M) (by omega)
  refine ⟨⟨by omega, by omega, by omega⟩, by omega, by simp only [sizeLine_eq]; omega, fun b hb => h b _ hb (Ex.refl.new hb) ⟨_, _, _, upd_same, ?_, mb.1, by omega, by omega, by omega⟩⟩
  split <;> omega
theorem in_dI {a : Addr} {kvs : List (Key × V)} {i : Int} {b : Bool} (h : H a = some (.dK kvs)) : oIn K b (.int i) (.ref a) H Q = Q (.bl (b ^^ (valV kvs (.inl i)).isSome)) H := in_dK (k := .inl i) (.inl h)
theorem ix_dI {a : Addr} {kvs : List (Key × V)} {i : Int} {v : V} (h : H a = some (.dK kvs)) (e : valV kvs (.inl i) = some v) : oIx K (.ref a) (.int i) H Q = Q v H := ix_dK (k := .inl i) (.inl h) e.symm
theorem set_dI {a : Addr} {kvs : List (Key × V)} {i : Int} {v : V} {R : Hp → Prop} (h : H a = some (.dK kvs)) (hl : kvs.length < 1000) (q : R (upd H a (.dK (putK kvs (.inl i) v)))) : oSet (.ref a) (.int i) v H R := by
  simp only [oSet, h, keyOf]
  exact ⟨by simp only [sizeLine_eq]; omega, q⟩
theorem lk2 {f g m : Str} {v w : V} (h : (m == f) = false) (h2 : (m == g) = false) : List.lookup m [(f, v), (g, w)] = none := by
  simp [List.lookup, h, h2]
end
end WR

set_option Elab.async false
set_option linter.all false
set_option maxRecDepth 100000
set_option maxHeartbeats 4000000
/-! dicts from names to tuples; what is told in order -/
namespace WR
open PySem PySem.Spec PyProof.Rows L2
section
variable {α : Type} {enc : α → List V}
abbrev RwG (α : Type) := List (Str × α)
def gget (rs : RwG α) (n : Str) : Option α := (rs.find? fun r => decide (r.1 = n)).map (·.2)
def gput (rs : RwG α) (n : Str) (p : α) : RwG α := if (rs.any fun r => decide (r.1 = n)) = true then rs.map (fun r => if r.1 = n then (r.1, p) else r) else rs ++ [(n, p)]
/-- the dict's pairs, each value a tuple -/
def RG (enc : α → List V) (H : Hp) : List (Key × V) → RwG α → Prop
  | [], [] => True
  | (k, v) :: kvs, (n, c) :: rs => k = .inr n ∧ (∃ t, v = .ref t ∧ H t = some (.tup (enc c))) ∧ RG enc H kvs rs
  | _, _ => False
theorem RG.tp {H H' : Hp} (x : Tp H H') : ∀ {kvs : List (Key × V)} {rs : RwG α}, RG enc H kvs rs → RG enc H' kvs rs
  | [], [], _ => trivial
  | [], _ :: _, h => h.elim
  | _ :: _, [], h => h.elim
  | (k, v) :: kvs, (n, c) :: rs, h => ⟨h.1, by obtain ⟨t, e, q⟩ := h.2.1; exact ⟨t, e, x _ _ q⟩, RG.tp x h.2.2⟩
theorem RG.len {H : Hp} : ∀ {kvs : List (Key × V)} {rs : RwG α}, RG enc H kvs rs → kvs.length = rs.length
  | [], [], _ => rfl
  | [], _ :: _, h => h.elim
  | _ :: _, [], h => h.elim
  | (k, v) :: kvs, (n, c) :: rs, h => congrArg Nat.succ (RG.len h.2.2)
theorem RG.keys {H : Hp} : ∀ {kvs : List (Key × V)} {rs : RwG α}, RG enc H kvs rs → keysS kvs = some (rs.map (·.1))
  | [], [], _ => rfl
  | [], _ :: _, h => h.elim
  | _ :: _, [], h => h.elim
  | (k, v) :: kvs, (n, c) :: rs, h => by
    obtain ⟨rfl, _, r⟩ := h
    simp only [keysS, RG.keys r, List.map_cons, Option.map_some]
theorem RG.kmap {H : Hp} : ∀ {kvs : List (Key × V)} {rs : RwG α}, RG enc H kvs rs → (kvs.map fun kv => kV kv.1) = rs.map fun r => V.str r.1
  | [], [], _ => rfl
  | [], _ :: _, h => h.elim
  | _ :: _, [], h => h.elim
  | (k, v) :: kvs, (n, c) :: rs, h => by
    obtain ⟨rfl, _, r⟩ := h
    rw [List.map_cons, List.map_cons, RG.kmap r]; rfl
theorem RG.any {H : Hp} (n : Str) : ∀ {kvs : List (Key × V)} {rs : RwG α}, RG enc H kvs rs → (kvs.any fun kv => decide (kv.1 = .inr n)) = (rs.any fun r => decide (r.1 = n))
  | [], [], _ => rfl
  | [], _ :: _, h => h.elim
  | _ :: _, [], h => h.elim
  | (k, v) :: kvs, (m, c) :: rs, h => by
    obtain ⟨rfl, _, r⟩ := h
    simp only [List.any_cons, RG.any n r, Sum.inr.injEq]
theorem RG.get {H : Hp} (n : Str) : ∀ {kvs : List (Key × V)} {rs : RwG α}, RG enc H kvs rs → (valV kvs (.inr n) = none ∧ gget rs n = none) ∨ ∃ t c, valV kvs (.inr n) = some (.ref t) ∧ gget rs n = some c ∧ H t = some (.tup (enc c))
  | [], [], _ => .inl ⟨rfl, rfl⟩
  | [], _ :: _, h => h.elim
  | _ :: _, [], h => h.elim
  | (k, v) :: kvs, (m, c) :: rs, h => by
    obtain ⟨rfl, ⟨t, rfl, e⟩, r⟩ := h
    by_cases hm : m = n
    · subst hm
      exact .inr ⟨t, c, valV_pos rfl, by simp [gget], e⟩
    · have h1 : ¬ ((Sum.inr m : Key) = Sum.inr n) := fun z => hm (Sum.inr.inj z)
      rcases RG.get n r with ⟨a, b⟩ | ⟨t', c', a, b, d⟩
      · exact .inl ⟨by rw [valV_neg h1]; exact a, by simp [gget, List.find?_cons, hm] at b ⊢; exact b⟩
      · exact .inr ⟨t', c', by rw [valV_neg h1]; exact a, by simp [gget, List.find?_cons, hm] at b ⊢; exact b, d⟩
theorem RG.some {H : Hp} {n : Str} {c : α} {kvs : List (Key × V)} {rs : RwG α} (h : RG enc H kvs rs) (e : gget rs n = some c) : ∃ t, valV kvs (.inr n) = Option.some (.ref t) ∧ H t = Option.some (.tup (enc c)) := by
  rcases h.get n with ⟨_, b⟩ | ⟨t, c', a, b, d⟩
  · rw [e] at b; cases b
  · rw [e] at b; cases b; exact ⟨t, a, d⟩
theorem RG.none {H : Hp} {n : Str} {kvs : List (Key × V)} {rs : RwG α} (h : RG enc H kvs rs) (e : gget rs n = Option.none) : valV kvs (.inr n) = Option.none := by
  rcases h.get n with ⟨a, _⟩ | ⟨t, c', a, b, d⟩
  · exact a
  · rw [e] at b; cases b
theorem RG.isSome {H : Hp} {n : Str} {kvs : List (Key × V)} {rs : RwG α} (h : RG enc H kvs rs) : (valV kvs (.inr n)).isSome = (gget rs n).isSome := by
  rcases h.get n with ⟨a, b⟩ | ⟨t, c', a, b, d⟩
  · rw [a, b]; rfl
  · rw [a, b]; rfl
theorem RG.app {H : Hp} {n : Str} {t : Addr} {c : α} (e : H t = Option.some (.tup (enc c))) : ∀ {kvs : List (Key × V)} {rs : RwG α}, RG enc H kvs rs → RG enc H (kvs ++ [(.inr n, .ref t)]) (rs ++ [(n, c)])
  | [], [], _ => ⟨rfl, ⟨t, rfl, e⟩, trivial⟩
  | [], _ :: _, h => h.elim
  | _ :: _, [], h => h.elim
  | (k, v) :: kvs, (m, c') :: rs, h => ⟨h.1, h.2.1, RG.app e h.2.2⟩
theorem RG.map {H : Hp} {n : Str} {t : Addr} {c : α} (e : H t = Option.some (.tup (enc c))) : ∀ {kvs : List (Key × V)} {rs : RwG α}, RG enc H kvs rs → RG enc H (kvs.map fun kv => if kv.1 = .inr n then (kv.1, V.ref t) else kv) (rs.map fun r => if r.1 = n then (r.1, c) else r)
  | [], [], _ => trivial
  | [], _ :: _, h => h.elim
  | _ :: _, [], h => h.elim
  | (k, v) :: kvs, (m, c') :: rs, h => by
    obtain ⟨rfl, q, r⟩ := h
    by_cases hm : m = n
    · simp only [List.map_cons, Sum.inr.injEq, hm, if_true]
      exact ⟨rfl, ⟨t, rfl, e⟩, RG.map e r⟩
    · simp only [List.map_cons, Sum.inr.injEq, hm, if_false]
      exact ⟨rfl, q, RG.map e r⟩
theorem RG.put {H : Hp} {n : Str} {t : Addr} {c : α} {kvs : List (Key × V)} {rs : RwG α} (e : H t = Option.some (.tup (enc c))) (h : RG enc H kvs rs) : RG enc H (putK kvs (.inr n) (.ref t)) (gput rs n c) := by
  unfold putK gput
  rw [RG.any n h]
  split
  · exact RG.map e h
  · exact RG.app e h
theorem gput_len (rs : RwG α) (n : Str) (p : α) : (gput rs n p).length ≤ rs.length + 1 := by
  unfold gput; split <;> simp
theorem gput_snoc {rs : RwG α} {s : Str} {p : α} (h : ∀ r ∈ rs, r.1 ≠ s) : gput rs s p = rs ++ [(s, p)] := by
  unfold gput
  rw [if_neg]
  simp only [List.any_eq_true, decide_eq_true_eq, not_exists, not_and]
  exact h
theorem gget_in {rs : RwG α} {s : Str} {p : α} (h : gget rs s = some p) : (s, p) ∈ rs := by
  unfold gget at h
  cases q : rs.find? fun r => decide (r.1 = s) with
  | none => rw [q] at h; cases h
  | some r =>
    rw [q] at h
    have h1 := List.mem_of_find?_eq_some q
    have h2 := List.find?_some q
    simp only [decide_eq_true_eq] at h2
    cases h
    rw [← h2]; exact h1
theorem gget_mem {rs : RwG α} {s : Str} (h : s ∈ rs.map (·.1)) : ∃ p, gget rs s = some p := by
  obtain ⟨r, hr, e⟩ := List.mem_map.mp h
  unfold gget
  cases q : rs.find? fun r => decide (r.1 = s) with
  | none =>
    have := List.find?_eq_none.mp q r hr
    simp [e] at this
  | some r' => exact ⟨r'.2, rfl⟩
theorem gget_no {rs : RwG α} {s : Str} (h : gget rs s = none) : s ∉ rs.map (·.1) := fun m => by
  obtain ⟨p, e⟩ := gget_mem m
  rw [h] at e; cases e
theorem gget_nd {rs : RwG α} {s : Str} {p : α} (nd : (rs.map (·.1)).Nodup) (h : (s, p) ∈ rs) : gget rs s = some p := by
  induction rs with
  | nil => cases h
  | cons r rs ih =>
    rw [List.map_cons, List.nodup_cons] at nd
    rcases List.mem_cons.mp h with rfl | h
    · simp [gget]
    · have : r.1 ≠ s := fun e => nd.1 (by rw [e]; exact List.mem_map_of_mem (f := (·.1)) h)
      have := ih nd.2 h
      simp [gget, List.find?_cons, *] at this ⊢
      exact this
theorem gput_get {rs : RwG α} {s n : Str} {p : α} : gget (gput rs s p) n = if n = s then some p else gget rs n := by
  by_cases h : (rs.any fun r => decide (r.1 = s)) = true
  · have e : gput rs s p = rs.map (fun r => if r.1 = s then (r.1, p) else r) := by unfold gput; rw [if_pos h]
    rw [e]
    have key : ∀ l : RwG α, gget (l.map (fun r => if r.1 = s then (r.1, p) else r)) n = if n = s then (if (l.any fun r => decide (r.1 = s)) = true then some p else none) else gget l n := by
      intro l
      induction l with
      | nil => by_cases z : n = s <;> simp [gget, z]
      | cons r l ih =>
        by_cases hr : r.1 = s
        · by_cases hn : n = s
          · simp [gget, List.find?_cons, hr, hn]
          · have h2 : ¬ s = n := fun z => hn z.symm
            simp only [gget, List.map_cons, hr, if_true, List.find?_cons, h2, decide_false, hn, if_false] at ih ⊢
            exact ih
        · by_cases hn : n = s
          · have h2 : ¬ r.1 = n := fun z => hr (by rw [z, hn])
            subst hn
            simp only [gget, List.map_cons, hr, if_false, List.find?_cons, decide_false, if_true, List.any_cons, Bool.false_or] at ih ⊢
            exact ih
          · simp only [gget, List.map_cons, hr, if_false, List.find?_cons, hn] at ih ⊢
            by_cases h3 : r.1 = n
            · simp [h3]
            · simp only [h3, decide_false]
              exact ih
    rw [key, h]
    simp
  · have e : gput rs s p = rs ++ [(s, p)] := by unfold gput; rw [if_neg h]
    rw [e]
    have no : ∀ r ∈ rs, r.1 ≠ s := by
      intro r hr z
      exact h (List.any_eq_true.mpr ⟨r, hr, by simpa using z⟩)
    unfold gget
    rw [List.find?_append]
    by_cases hn : n = s
    · subst hn
      rw [List.find?_eq_none.mpr (by intro r hr; simpa using no r hr)]
      simp
    · have h2 : ¬ s = n := fun z => hn z.symm
      simp [List.find?_cons, h2, hn]
theorem gput_keys {rs : RwG α} {s : Str} {p : α} : (gput rs s p).map (·.1) = if (rs.any fun r => decide (r.1 = s)) = true then rs.map (·.1) else rs.map (·.1) ++ [s] := by
  unfold gput
  split
  · rw [List.map_map]
    apply List.map_congr_left
    intro r _
    by_cases h : r.1 = s <;> simp [h]
  · simp
theorem gput_nd {rs : RwG α} {s : Str} {p : α} (nd : (rs.map (·.1)).Nodup) : ((gput rs s p).map (·.1)).Nodup := by
  rw [gput_keys]
  split
  · exact nd
  · rename_i h
    rw [List.nodup_append]
    refine ⟨nd, by simp, ?_⟩
    intro a ha b hb
    rw [List.mem_singleton] at hb
    rintro rfl
    subst hb
    obtain ⟨r, hr, e⟩ := List.mem_map.mp ha
    exact h (List.any_eq_true.mpr ⟨r, hr, by simpa using e⟩)
theorem gput_mem {rs : RwG α} {s : Str} {p : α} {r : Str × α} (h : r ∈ gput rs s p) : r ∈ rs ∨ r = (s, p) := by
  unfold gput at h
  split at h
  · obtain ⟨q, hq, rfl⟩ := List.mem_map.mp h
    by_cases e : q.1 = s
    · right; simp [e]
    · left; simpa [e] using hq
  · rcases List.mem_append.mp h with h | h
    · exact .inl h
    · right; simpa using h
/-- a dict of such rows at d -/
def GAt (enc : α → List V) (H : Hp) (d : Addr) (rs : RwG α) : Prop := ∃ kvs, H d = some (.dK kvs) ∧ RG enc H kvs rs
theorem GAt.ex {H H' : Hp} {d : Addr} {rs : RwG α} (x : Ex H H') (h : GAt enc H d rs) : GAt enc H' d rs := by
  obtain ⟨kvs, e, r⟩ := h
  exact ⟨kvs, x _ _ e, r.tp x.tp⟩
/-- the rows in the order of ys -/
def gordr [Inhabited α] (rs : RwG α) (ys : List Str) : RwG α := ys.map fun s => (s, (gget rs s).getD default)
theorem gordr_keys [Inhabited α] (rs : RwG α) (ys : List Str) : (gordr rs ys).map (·.1) = ys := by
  unfold gordr; rw [List.map_map]; simp [Function.comp_def]
theorem gordr_snoc [Inhabited α] {rs : RwG α} {ys : List Str} {j : Nat} {s : Str} (nd : ys.Nodup) (hj : ys[j]? = some s) : gput (gordr rs (ys.take j)) s ((gget rs s).getD default) = gordr rs (ys.take (j + 1)) := by
  rw [gput_snoc]
  · unfold gordr
    rw [List.take_add_one, hj]
    simp
  · intro r hr e
    have h1 : s ∈ ys.take j := by
      have := List.mem_map_of_mem (f := (·.1)) hr
      rw [gordr_keys] at this
      rw [← e]; exact this
    obtain ⟨i, hi, e1⟩ := List.mem_iff_getElem.mp h1
    have hij : i < j := by have := hi; rw [List.length_take] at this; omega
    have e2 : ys[i]? = some s := by rw [← List.getElem?_take_of_lt hij, List.getElem?_eq_getElem hi, e1]
    have h2 := (List.getElem?_eq_some_iff.mp hj).1
    have h3 := (List.getElem?_eq_some_iff.mp e2).1
    exact absurd (by rw [(List.getElem?_eq_some_iff.mp e2).2, (List.getElem?_eq_some_iff.mp hj).2]) (List.pairwise_iff_getElem.mp nd i j h3 h2 hij)
/-- what a told dict is: the rows in the order of their names -/
def GTold [Inhabited α] (rs ts : RwG α) : Prop := ∃ ys : List Str, ys.Perm (rs.map (·.1)) ∧ sortedS ys = true ∧ ts = gordr rs ys
theorem GTold.uniq [Inhabited α] {rs ts us : RwG α} (h : GTold rs ts) (k : GTold rs us) : ts = us := by
  obtain ⟨ys, h1, h2, rfl⟩ := h
  obtain ⟨zs, k1, k2, rfl⟩ := k
  rw [srt_uniq h1 h2 k1 k2]
theorem GTold.mem [Inhabited α] {rs ts : RwG α} (nd : (rs.map (·.1)).Nodup) (h : GTold rs ts) {r : Str × α} (hr : r ∈ ts) : r ∈ rs := by
  obtain ⟨ys, p1, s1, rfl⟩ := h
  unfold gordr at hr
  obtain ⟨s, hs, rfl⟩ := List.mem_map.mp hr
  obtain ⟨p, e⟩ := gget_mem (p1.mem_iff.mp hs)
  rw [e]; exact gget_in e
theorem GTold.len [Inhabited α] {rs ts : RwG α} (h : GTold rs ts) : ts.length = rs.length := by
  obtain ⟨ys, p1, s1, rfl⟩ := h
  unfold gordr
  rw [List.length_map, p1.length_eq, List.length_map]
end
end WR

set_option Elab.async false
set_option linter.all false
set_option maxRecDepth 100000
set_option maxHeartbeats 4000000
namespace WR
open PySem PySem.Spec PyProof.Rows L2
section
variable {K : PySem.W.Frag} {H H1 H' : Hp} {Q : VK} {E : XK}
/-- a digit of a box: the drawn number's slot i, the digit's slot j -/
def takeR2 (K : PySem.W.Frag) (i j : Nat) (k1 s1 e1 m1 k2 e2 m2 d : Int) : TS :=
  (tSeq (tIfS (cTest (tOp (oGtK K) (tOp (oIx K) (cVar 0) (tC (.int 0))) (tC (.int 0))))
  (tSeq (tAsg (tOp oMod (tOp (oIx K) (cVar 0) (tC (.int 0))) (cVar 1)) (gName j))
  (tSeq (tAsg (tOp oFdiv (tOp (oIx K) (cVar 0) (tC (.int 0))) (cVar 1)) (gSub (cVar 0) (tC (.int 0)) oSet))
  (tRet (cVar j))))
  tNext)
  (tSeq (tAsg (tOp (oAdd K) (tOp (oIx K) (cVar 0) (tC (.int 2))) (tC (.int 1))) (gSub (cVar 0) (tC (.int 2)) oSet))
  (tSeq (tAsg (tOp oMod (tOp oPow (tOp (oAdd K) (tOp (oAdd K) (tOp (oIx K) (cVar 0) (tC (.int 1))) (tOp oMul (tC (.int k1)) (tOp (oIx K) (cVar 0) (tC (.int 2))))) (tC (.int s1))) (tC (.int e1))) (tC (.int m1))) (gName i))
  (tSeq (tAsg (tOp oMod (tOp oPow (tOp (oAdd K) (cVar i) (tOp oMul (tC (.int k2)) (tOp (oIx K) (cVar 0) (tC (.int 2))))) (tC (.int e2))) (tC (.int m2))) (gName i))
  (tRet (tOp oMod (tOp oFdiv (cVar i) (tC (.int d))) (cVar 1)))))))
theorem take2_ok {i j : Nat} {k1 s1 e1 m1 k2 e2 m2 d : Int} {b : Addr} {N : Nat} {many : Int} {D : Ends} (hij : i = 2 ∧ j = 3 ∨ i = 3 ∧ j = 2) (hx : Bx H b N) (hN : N < 100000) (h1 : 1 ≤ many) (h2 : many < 2 ^ 110)
    (c1 : 0 ≤ k1 ∧ k1 < 2 ^ 30) (c2 : 0 ≤ s1 ∧ s1 < 2 ^ 30) (c3 : 0 ≤ e1 ∧ e1 ≤ 10) (c4 : 0 < m1 ∧ m1 < 2 ^ 32) (c6 : 0 ≤ k2 ∧ k2 < 2 ^ 28) (c8 : 0 ≤ e2 ∧ e2 ≤ 10)
    (c9 : 0 < m2 ∧ m2 < 2 ^ 32) (c10 : 0 < d ∧ d < 2 ^ 32)
    (h : ∀ r H', 0 ≤ r → r < many → Bx H' b (N + 1) → Fr [b] H H' → D.rt (.int r) H') : takeR2 K i j k1 s1 e1 m1 k2 e2 m2 d D [some (.ref b), some (.int many), none, none] H := by
  have cdm : ∀ x : Int, CDivW x many := fun x => by
    unfold CDivW
    have : many.natAbs.log2 < 110 := by
      have q : many.natAbs < 2 ^ 110 := by omega
      exact (Nat.log2_lt (by omega)).mpr q
    omega
  obtain ⟨a, o, c, e, a0, o0, o1, n0, n1⟩ := hx
  unfold takeR2
  refine seq_ fun N1 g1 => ifS_ fun A B hA hB => ?_
  simp only [cTest, tOp, cVar, tC, oGtK, List.getElem?_cons_zero]
  rw [ix_lst (look_of_lst e) (v := .int a) rfl]
  rcases hij with ⟨rfl, rfl⟩ | ⟨rfl, rfl⟩
  all_goals
    try simp only [tSeq, tIfS, tNext, tRet, tRetN, tDrop, tAsg, tC, cVar, tOp, tCB, tCons, tNil, tTup, tLst, tIf, tAnd, tOr, tNot, cTest, cTru, oTru, cAnd, cOr, cNot, cUn, cChain, gName, cTupG, gCons, gNil, gSub, oLt, oLtK, oLe, oGt, oGe, oGtK, oGeK, oBor, oIs, oIsNot, oSub, oMul, oFdiv, oMod, oPow, cPar, cPar3, cAug, tDNewK, cCall, cAttr, frzE, List.mem_singleton, List.lookup_cons_self, List.getElem?_cons_zero, List.getElem?_cons_succ, List.set_cons_zero, List.set_cons_succ, Option.some.injEq, reduceCtorEq, if_true, if_false, Bool.true_eq_false, Bool.false_eq_true, decide_eq_true_eq, ite_true, ite_false, ↓reduceIte, List.length_cons, List.length_nil, true_and, and_true, exists_eq_left', exists_eq_left, List.cons.injEq]
    by_cases az : 0 < a
    · simp only [az, decide_true, if_true]
      refine hA _ (seq_ fun N2 g2 => ?_)
      try simp only [tSeq, tIfS, tNext, tRet, tRetN, tDrop, tAsg, tC, cVar, tOp, tCB, tCons, tNil, tTup, tLst, tIf, tAnd, tOr, tNot, cTest, cTru, oTru, cAnd, cOr, cNot, cUn, cChain, gName, cTupG, gCons, gNil, gSub, oLt, oLtK, oLe, oGt, oGe, oGtK, oGeK, oBor, oIs, oIsNot, oSub, oMul, oFdiv, oMod, oPow, cPar, cPar3, cAug, tDNewK, cCall, cAttr, frzE, List.mem_singleton, List.lookup_cons_self, List.getElem?_cons_zero, List.getElem?_cons_succ, List.set_cons_zero, List.set_cons_succ, Option.some.injEq, reduceCtorEq, if_true, if_false, Bool.true_eq_false, Bool.false_eq_true, decide_eq_true_eq, ite_true, ite_false, ↓reduceIte, List.length_cons, List.length_nil, true_and, and_true, exists_eq_left', exists_eq_left, List.cons.injEq]
      rw [ix_lst (look_of_lst e) (v := .int a) rfl]
      try simp only [tSeq, tIfS, tNext, tRet, tRetN, tDrop, tAsg, tC, cVar, tOp, tCB, tCons, tNil, tTup, tLst, tIf, tAnd, tOr, tNot, cTest, cTru, oTru, cAnd, cOr, cNot, cUn, cChain, gName, cTupG, gCons, gNil, gSub, oLt, oLtK, oLe, oGt, oGe, oGtK, oGeK, oBor, oIs, oIsNot, oSub, oMul, oFdiv, oMod, oPow, cPar, cPar3, cAug, tDNewK, cCall, cAttr, frzE, List.mem_singleton, List.lookup_cons_self, List.getElem?_cons_zero, List.getElem?_cons_succ, List.set_cons_zero, List.set_cons_succ, Option.some.injEq, reduceCtorEq, if_true, if_false, Bool.true_eq_false, Bool.false_eq_true, decide_eq_true_eq, ite_true, ite_false, ↓reduceIte, List.length_cons, List.length_nil, true_and, and_true, exists_eq_left', exists_eq_left, List.cons.injEq]
      refine ⟨by omega, g2 _ _ (seq_ fun N3 g3 => ?_)⟩
      try simp only [tSeq, tIfS, tNext, tRet, tRetN, tDrop, tAsg, tC, cVar, tOp, tCB, tCons, tNil, tTup, tLst, tIf, tAnd, tOr, tNot, cTest, cTru, oTru, cAnd, cOr, cNot, cUn, cChain, gName, cTupG, gCons, gNil, gSub, oLt, oLtK, oLe, oGt, oGe, oGtK, oGeK, oBor, oIs, oIsNot, oSub, oMul, oFdiv, oMod, oPow, cPar, cPar3, cAug, tDNewK, cCall, cAttr, frzE, List.mem_singleton, List.lookup_cons_self, List.getElem?_cons_zero, List.getElem?_cons_succ, List.set_cons_zero, List.set_cons_succ, Option.some.injEq, reduceCtorEq, if_true, if_false, Bool.true_eq_false, Bool.false_eq_true, decide_eq_true_eq, ite_true, ite_false, ↓reduceIte, List.length_cons, List.length_nil, true_and, and_true, exists_eq_left', exists_eq_left, List.cons.injEq]
      rw [ix_lst (look_of_lst e) (v := .int a) rfl]
      try simp only [tSeq, tIfS, tNext, tRet, tRetN, tDrop, tAsg, tC, cVar, tOp, tCB, tCons, tNil, tTup, tLst, tIf, tAnd, tOr, tNot, cTest, cTru, oTru, cAnd, cOr, cNot, cUn, cChain, gName, cTupG, gCons, gNil, gSub, oLt, oLtK, oLe, oGt, oGe, oGtK, oGeK, oBor, oIs, oIsNot, oSub, oMul, oFdiv, oMod, oPow, cPar, cPar3, cAug, tDNewK, cCall, cAttr, frzE, List.mem_singleton, List.lookup_cons_self, List.getElem?_cons_zero, List.getElem?_cons_succ, List.set_cons_zero, List.set_cons_succ, Option.some.injEq, reduceCtorEq, if_true, if_false, Bool.true_eq_false, Bool.false_eq_true, decide_eq_true_eq, ite_true, ite_false, ↓reduceIte, List.length_cons, List.length_nil, true_and, and_true, exists_eq_left', exists_eq_left, List.cons.injEq]
      refine ⟨cdm _, ?_⟩
      simp only [oSet, e, List.length_cons, List.length_nil]
      rw [show ixN (0 + 1 + 1 + 1) 0 = some 0 from rfl]
      refine g3 _ _ ?_
      try simp only [tSeq, tIfS, tNext, tRet, tRetN, tDrop, tAsg, tC, cVar, tOp, tCB, tCons, tNil, tTup, tLst, tIf, tAnd, tOr, tNot, cTest, cTru, oTru, cAnd, cOr, cNot, cUn, cChain, gName, cTupG, gCons, gNil, gSub, oLt, oLtK, oLe, oGt, oGe, oGtK, oGeK, oBor, oIs, oIsNot, oSub, oMul, oFdiv, oMod, oPow, cPar, cPar3, cAug, tDNewK, cCall, cAttr, frzE, List.mem_singleton, List.lookup_cons_self, List.getElem?_cons_zero, List.getElem?_cons_succ, List.set_cons_zero, List.set_cons_succ, Option.some.injEq, reduceCtorEq, if_true, if_false, Bool.true_eq_false, Bool.false_eq_true, decide_eq_true_eq, ite_true, ite_false, ↓reduceIte, List.length_cons, List.length_nil, true_and, and_true, exists_eq_left', exists_eq_left, List.cons.injEq]
      have mb := mod_b (a := a) (m := many) (by omega)
      refine h _ _ mb.1 mb.2 ⟨a / many, o, c, by rw [upd_same]; try rfl, Int.ediv_nonneg a0 (by omega), o0, o1, n0, by omega⟩ (Fr.refl.put (by simp))
    · simp only [az, decide_false, Bool.false_eq_true, if_false]
      refine hB _ (g1 _ _ (seq_ fun N2 g2 => ?_))
      try simp only [tSeq, tIfS, tNext, tRet, tRetN, tDrop, tAsg, tC, cVar, tOp, tCB, tCons, tNil, tTup, tLst, tIf, tAnd, tOr, tNot, cTest, cTru, oTru, cAnd, cOr, cNot, cUn, cChain, gName, cTupG, gCons, gNil, gSub, oLt, oLtK, oLe, oGt, oGe, oGtK, oGeK, oBor, oIs, oIsNot, oSub, oMul, oFdiv, oMod, oPow, cPar, cPar3, cAug, tDNewK, cCall, cAttr, frzE, List.mem_singleton, List.lookup_cons_self, List.getElem?_cons_zero, List.getElem?_cons_succ, List.set_cons_zero, List.set_cons_succ, Option.some.injEq, reduceCtorEq, if_true, if_false, Bool.true_eq_false, Bool.false_eq_true, decide_eq_true_eq, ite_true, ite_false, ↓reduceIte, List.length_cons, List.length_nil, true_and, and_true, exists_eq_left', exists_eq_left, List.cons.injEq]
      rw [ix_lst (look_of_lst e) (v := .int c) rfl]
      simp only [oAdd, oSet, e, tSeq, tIfS, tNext, tRet, tRetN, tDrop, tAsg, tC, cVar, tOp, tCB, tCons, tNil, tTup, tLst, tIf, tAnd, tOr, tNot, cTest, cTru, oTru, cAnd, cOr, cNot, cUn, cChain, gName, cTupG, gCons, gNil, gSub, oLt, oLtK, oLe, oGt, oGe, oGtK, oGeK, oBor, oIs, oIsNot, oSub, oMul, oFdiv, oMod, oPow, cPar, cPar3, cAug, tDNewK, cCall, cAttr, frzE, List.mem_singleton, List.lookup_cons_self, List.getElem?_cons_zero, List.getElem?_cons_succ, List.set_cons_zero, List.set_cons_succ, Option.some.injEq, reduceCtorEq, if_true, if_false, Bool.true_eq_false, Bool.false_eq_true, decide_eq_true_eq, ite_true, ite_false, ↓reduceIte, List.length_cons, List.length_nil, true_and, and_true, exists_eq_left', exists_eq_left, List.cons.injEq]
      rw [show ixN (0 + 1 + 1 + 1) 2 = some 2 from rfl]
      refine g2 _ _ (seq_ fun N3 g3 => ?_)
      have ee : (upd H b (.lst ([V.int a, V.int o, V.int c].set 2 (.int (c + 1))))) b = some (.lst [.int a, .int o, .int (c + 1)]) := by rw [upd_same]; try rfl
      have fr : Fr [b] H (upd H b (.lst ([V.int a, V.int o, V.int c].set 2 (.int (c + 1))))) := Fr.refl.put (by simp)
      generalize upd H b (.lst ([V.int a, V.int o, V.int c].set 2 (.int (c + 1)))) = H2 at ee fr ⊢
      obtain ⟨C, hC⟩ : ∃ C, C = c + 1 := ⟨_, rfl⟩
      rw [← hC] at ee
      have q1 := mul_lt (a := k1) (b := C) (x := 2 ^ 30) (y := 2 ^ 17) (by omega) (by omega) (by omega) (by omega)
      have q2 := mul_lt (a := k2) (b := C) (x := 2 ^ 28) (y := 2 ^ 17) (by omega) (by omega) (by omega) (by omega)
      try simp only [tSeq, tIfS, tNext, tRet, tRetN, tDrop, tAsg, tC, cVar, tOp, tCB, tCons, tNil, tTup, tLst, tIf, tAnd, tOr, tNot, cTest, cTru, oTru, cAnd, cOr, cNot, cUn, cChain, gName, cTupG, gCons, gNil, gSub, oLt, oLtK, oLe, oGt, oGe, oGtK, oGeK, oBor, oIs, oIsNot, oSub, oMul, oFdiv, oMod, oPow, cPar, cPar3, cAug, tDNewK, cCall, cAttr, frzE, List.mem_singleton, List.lookup_cons_self, List.getElem?_cons_zero, List.getElem?_cons_succ, List.set_cons_zero, List.set_cons_succ, Option.some.injEq, reduceCtorEq, if_true, if_false, Bool.true_eq_false, Bool.false_eq_true, decide_eq_true_eq, ite_true, ite_false, ↓reduceIte, List.length_cons, List.length_nil, true_and, and_true, exists_eq_left', exists_eq_left, List.cons.injEq]
      rw [ix_lst (look_of_lst ee) (v := .int o) rfl]
      try simp only [tSeq, tIfS, tNext, tRet, tRetN, tDrop, tAsg, tC, cVar, tOp, tCB, tCons, tNil, tTup, tLst, tIf, tAnd, tOr, tNot, cTest, cTru, oTru, cAnd, cOr, cNot, cUn, cChain, gName, cTupG, gCons, gNil, gSub, oLt, oLtK, oLe, oGt, oGe, oGtK, oGeK, oBor, oIs, oIsNot, oSub, oMul, oFdiv, oMod, oPow, cPar, cPar3, cAug, tDNewK, cCall, cAttr, frzE, List.mem_singleton, List.lookup_cons_self, List.getElem?_cons_zero, List.getElem?_cons_succ, List.set_cons_zero, List.set_cons_succ, Option.some.injEq, reduceCtorEq, if_true, if_false, Bool.true_eq_false, Bool.false_eq_true, decide_eq_true_eq, ite_true, ite_false, ↓reduceIte, List.length_cons, List.length_nil, true_and, and_true, exists_eq_left', exists_eq_left, List.cons.injEq]
      rw [ix_lst (look_of_lst ee) (v := .int C) rfl]
      simp only [oAdd, tSeq, tIfS, tNext, tRet, tRetN, tDrop, tAsg, tC, cVar, tOp, tCB, tCons, tNil, tTup, tLst, tIf, tAnd, tOr, tNot, cTest, cTru, oTru, cAnd, cOr, cNot, cUn, cChain, gName, cTupG, gCons, gNil, gSub, oLt, oLtK, oLe, oGt, oGe, oGtK, oGeK, oBor, oIs, oIsNot, oSub, oMul, oFdiv, oMod, oPow, cPar, cPar3, cAug, tDNewK, cCall, cAttr, frzE, List.mem_singleton, List.lookup_cons_self, List.getElem?_cons_zero, List.getElem?_cons_succ, List.set_cons_zero, List.set_cons_succ, Option.some.injEq, reduceCtorEq, if_true, if_false, Bool.true_eq_false, Bool.false_eq_true, decide_eq_true_eq, ite_true, ite_false, ↓reduceIte, List.length_cons, List.length_nil, true_and, and_true, exists_eq_left', exists_eq_left, List.cons.injEq]
      refine ⟨cmul_of (by omega) (by omega), ⟨by omega, by omega, by omega⟩, by omega, g3 _ _ (seq_ fun N4 g4 => ?_)⟩
      have mb := mod_b (a := (o + k1 * C + s1) ^ e1.toNat) (m := m1) (by omega)
      generalize (o + k1 * C + s1) ^ e1.toNat % m1 = one at mb ⊢
      try simp only [tSeq, tIfS, tNext, tRet, tRetN, tDrop, tAsg, tC, cVar, tOp, tCB, tCons, tNil, tTup, tLst, tIf, tAnd, tOr, tNot, cTest, cTru, oTru, cAnd, cOr, cNot, cUn, cChain, gName, cTupG, gCons, gNil, gSub, oLt, oLtK, oLe, oGt, oGe, oGtK, oGeK, oBor, oIs, oIsNot, oSub, oMul, oFdiv, oMod, oPow, cPar, cPar3, cAug, tDNewK, cCall, cAttr, frzE, List.mem_singleton, List.lookup_cons_self, List.getElem?_cons_zero, List.getElem?_cons_succ, List.set_cons_zero, List.set_cons_succ, Option.some.injEq, reduceCtorEq, if_true, if_false, Bool.true_eq_false, Bool.false_eq_true, decide_eq_true_eq, ite_true, ite_false, ↓reduceIte, List.length_cons, List.length_nil, true_and, and_true, exists_eq_left', exists_eq_left, List.cons.injEq]
      rw [ix_lst (look_of_lst ee) (v := .int C) rfl]
      simp only [oAdd, tSeq, tIfS, tNext, tRet, tRetN, tDrop, tAsg, tC, cVar, tOp, tCB, tCons, tNil, tTup, tLst, tIf, tAnd, tOr, tNot, cTest, cTru, oTru, cAnd, cOr, cNot, cUn, cChain, gName, cTupG, gCons, gNil, gSub, oLt, oLtK, oLe, oGt, oGe, oGtK, oGeK, oBor, oIs, oIsNot, oSub, oMul, oFdiv, oMod, oPow, cPar, cPar3, cAug, tDNewK, cCall, cAttr, frzE, List.mem_singleton, List.lookup_cons_self, List.getElem?_cons_zero, List.getElem?_cons_succ, List.set_cons_zero, List.set_cons_succ, Option.some.injEq, reduceCtorEq, if_true, if_false, Bool.true_eq_false, Bool.false_eq_true, decide_eq_true_eq, ite_true, ite_false, ↓reduceIte, List.length_cons, List.length_nil, true_and, and_true, exists_eq_left', exists_eq_left, List.cons.injEq]
      refine ⟨cmul_of (by omega) (by omega), ⟨by omega, by omega, by omega⟩, by omega, g4 _ _ ?_⟩
      have mb2 := mod_b (a := (one + k2 * C) ^ e2.toNat) (m := m2) (by omega)
      generalize (one + k2 * C) ^ e2.toNat % m2 = oth at mb2 ⊢
      try simp only [tSeq, tIfS, tNext, tRet, tRetN, tDrop, tAsg, tC, cVar, tOp, tCB, tCons, tNil, tTup, tLst, tIf, tAnd, tOr, tNot, cTest, cTru, oTru, cAnd, cOr, cNot, cUn, cChain, gName, cTupG, gCons, gNil, gSub, oLt, oLtK, oLe, oGt, oGe, oGtK, oGeK, oBor, oIs, oIsNot, oSub, oMul, oFdiv, oMod, oPow, cPar, cPar3, cAug, tDNewK, cCall, cAttr, frzE, List.mem_singleton, List.lookup_cons_self, List.getElem?_cons_zero, List.getElem?_cons_succ, List.set_cons_zero, List.set_cons_succ, Option.some.injEq, reduceCtorEq, if_true, if_false, Bool.true_eq_false, Bool.false_eq_true, decide_eq_true_eq, ite_true, ite_false, ↓reduceIte, List.length_cons, List.length_nil, true_and, and_true, exists_eq_left', exists_eq_left, List.cons.injEq]
      refine ⟨cdiv_of (by omega) (by omega), by omega, ?_⟩
      have mb3 := mod_b (a := oth / d) (m := many) (by omega)
      exact h _ _ mb3.1 mb3.2 ⟨a, o, C, ee, a0, o0, o1, by omega, by omega⟩ fr
end
end WR

set_option Elab.async false
set_option linter.all false
set_option maxRecDepth 100000
set_option maxHeartbeats 4000000
/-! steps of readings, by name: what comes behind stays a hole -/
namespace WR
open PySem PySem.Spec PyProof.Rows L2
section
variable {K : PySem.W.Frag} {H H1 H' : Hp} {Q : VK} {E : XK} {σ : L2.St} {D : Ends} {x y : V} {i : Nat}
theorem var_ {x : V} (h : σ[i]? = some (some x)) (q : Q x H) : cVar i σ H Q := by
  simp only [cVar, h]; exact q
theorem const_ {x : V} (q : Q x H) : tC x σ H Q := q
theorem call_ {sp : Sp} {n m : Nat} {arr : List V → List V → List V} {t tk : TA} {W : WX} (h : t σ H fun vs H1 => tk σ H1 fun zs H2 => vs.length = n ∧ zs.length = m ∧ sp (arr vs zs) H2 Q (fun cls d H' => W cls d σ H')) : cCall sp n m arr t tk W σ H Q := h
theorem cons_ {t : TE} {ts : TA} {R : List V → Hp → Prop} (h : t σ H fun x H1 => ts σ H1 fun xs H2 => R (x :: xs) H2) : tCons t ts σ H R := h
theorem con_ {x : V} {t : TA} {R : List V → Hp → Prop} (h : t σ H fun xs H1 => R (x :: xs) H1) : tCons (tC x) t σ H R := h
theorem cva_ {x : V} {t : TA} {R : List V → Hp → Prop} (e : σ[i]? = some (some x)) (h : t σ H fun xs H1 => R (x :: xs) H1) : tCons (cVar i) t σ H R := cons_ (var_ e h)
theorem nil_ {R : List V → Hp → Prop} (h : R [] H) : tNil σ H R := h
theorem op_ {r : R2} {ta tb : TE} (h : ta σ H fun x H1 => tb σ H1 fun y H2 => r x y H2 Q) : tOp r ta tb σ H Q := h
theorem cb_ {r : RC} {t : TA} (h : t σ H fun xs H1 => r xs H1 Q) : tCB r t σ H Q := h
theorem asg_ {te : TE} (h : te σ H fun x H1 => D.nx (σ.set i (some x)) H1) : tAsg te (gName i) D σ H := h
theorem ret_ {te : TE} (h : te σ H fun x H1 => D.rt x H1) : tRet te D σ H := h
theorem drop_ {te : TE} (h : te σ H fun _ H1 => D.nx σ H1) : tDrop te D σ H := h
theorem next_ (h : D.nx σ H) : tNext D σ H := h
theorem yes_ {R : Bool → Hp → Prop} (h : R true H) : tYes σ H R := h
end
end WR

set_option Elab.async false
set_option linter.all false
set_option maxRecDepth 100000
set_option maxHeartbeats 0
namespace WR.L
open PySem PySem.Spec PyProof.Rows L2
def top (i : Nat) : Stmt := PySem.Challenge.pw_peersmeet_k15_pieces_by_their_marks.main.body.getD i (.Pass ⟨0, 0, 0, 0⟩)
def d_is_whole : Df := ⟨("is_whole", none), "is_whole", "is_whole", top 17, ["thing", "low", "high"], ["thing", "low", "high"], [], [], false⟩
def d_is_name : Df := ⟨("is_name", none), "is_name", "is_name", top 18, ["thing", "sign"], ["thing"], [], [], false⟩
def d_is_text : Df := ⟨("is_text", none), "is_text", "is_text", top 19, ["thing", "sign"], ["thing"], [], [], false⟩
def d_mark_of : Df := ⟨("mark_of", none), "mark_of", "mark_of", top 20, ["text", "sign", "one", "other"], ["text"], [], [], false⟩
def d_is_list : Df := ⟨("is_list", none), "is_list", "is_list", top 24, ["thing", "most"], ["thing", "most"], [], [], false⟩
def d_is_piece : Df := ⟨("is_piece", none), "is_piece", "is_piece", top 25, ["thing", "last"], ["thing", "last"], [], [("last", (.bl true))], false⟩
def d_is_mark : Df := ⟨("is_mark", none), "is_mark", "is_mark", top 26, ["thing"], ["thing"], [], [], false⟩
def d_is_card : Df := ⟨("is_card", none), "is_card", "is_card", top 27, ["thing", "key", "number", "by", "marks", "mark"], ["thing"], [], [], false⟩
def d_need_card : Df := ⟨("need_card", none), "need_card", "need_card", top 28, ["thing"], ["thing"], [], [], false⟩
def d_fits : Df := ⟨("fits", none), "fits", "fits", top 29, ["card", "at", "piece", "marks"], ["card", "at", "piece"], [], [], false⟩
def d_first_wrong : Df := ⟨("first_wrong", none), "first_wrong", "first_wrong", top 30, ["card", "pieces", "at", "piece"], ["card", "pieces"], [], [], false⟩
def d_whole_text : Df := ⟨("whole_text", none), "whole_text", "whole_text", top 31, ["card", "pieces", "numbers", "at", "lacking"], ["card", "pieces"], [], [], false⟩
def d__law_cell : Df := ⟨("_law_cell", none), "_law_cell", "_law_cell", top 33, ["script", "k"], ["script", "k"], [], [], false⟩
def d__law_box : Df := ⟨("_law_box", none), "_law_box", "_law_box", top 34, ["cell"], ["cell"], [], [], false⟩
def d__law_take : Df := ⟨("_law_take", none), "_law_take", "_law_take", top 35, ["box", "many", "turn", "digit"], ["box", "many"], [], [], false⟩
def d__law_text : Df := ⟨("_law_text", none), "_law_text", "_law_text", top 36, ["box", "size", "signs", "k"], ["box", "size"], [], [], false⟩
def d__law_cut : Df := ⟨("_law_cut", none), "_law_cut", "_law_cut", top 37, ["text", "k"], ["text"], [], [], false⟩
def d__law_mark : Df := ⟨("_law_mark", none), "_law_mark", "_law_mark", top 38, ["text", "one", "other", "sign"], ["text"], [], [], false⟩
def d__law_marks : Df := ⟨("_law_marks", none), "_law_marks", "_law_marks", top 39, ["text", "piece"], ["text"], [], [], false⟩
def d__law_thing : Df := ⟨("_law_thing", none), "_law_thing", "_law_thing", top 40, ["box", "some"], ["box"], [], [], false⟩
def d__law_grown : Df := ⟨("_law_grown", none), "_law_grown", "_law_grown", top 41, ["thing"], ["thing"], [], [], false⟩
def d__law_turned : Df := ⟨("_law_turned", none), "_law_turned", "_law_turned", top 42, ["box", "piece", "at", "signs", "turned"], ["box", "piece"], [], [], false⟩
def d__law_bent : Df := ⟨("_law_bent", none), "_law_bent", "_law_bent", top 43, ["box", "pieces", "k", "way", "some"], ["box", "pieces"], [], [], false⟩
def d__law_fits : Df := ⟨("_law_fits", none), "_law_fits", "_law_fits", top 44, ["marks", "at", "piece", "sign"], ["marks", "at", "piece"], [], [], false⟩
def d__law_wrong : Df := ⟨("_law_wrong", none), "_law_wrong", "_law_wrong", top 45, ["marks", "pieces", "at", "piece"], ["marks", "pieces"], [], [], false⟩
def d__law_whole_due : Df := ⟨("_law_whole_due", none), "_law_whole_due", "_law_whole_due", top 46, ["card", "pieces", "at", "lacking"], ["card", "pieces"], [], [], false⟩
def d__law_whole_right : Df := ⟨("_law_whole_right", none), "_law_whole_right", "_law_whole_right", top 47, ["card", "pieces", "due", "held", "told", "e"], ["card", "pieces"], [], [], false⟩
def d__law_refused : Df := ⟨("_law_refused", none), "_law_refused", "_law_refused", top 48, ["card", "thing", "word", "kinds", "door", "e"], ["card", "thing", "word"], [], [], false⟩
def d__law_too_many : Df := ⟨("_law_too_many", none), "_law_too_many", "_law_too_many", top 49, ["card", "thing", "e"], ["card", "thing"], [], [], false⟩
def d__law_other_kind_right : Df := ⟨("_law_other_kind_right", none), "_law_other_kind_right", "_law_other_kind_right", top 50, ["card", "door", "thing", "e"], ["card"], [], [], false⟩
def d__law_many_right : Df := ⟨("_law_many_right", none), "_law_many_right", "_law_many_right", top 51, ["card", "at"], ["card"], [], [], false⟩
def d_law : Df := ⟨("law", none), "law", "law", top 52, ["script", "k", "box", "text", "card", "good", "pieces", "odd", "at", "chart", "turned", "turn", "one", "thing", "word", "piece"], ["script"], [], [], false⟩
def d__law_grown_h : Df := { d__law_grown with hot := true }
theorem kb1 : Kb d_is_whole 3 [] (fun vs _ => vs) := kb_plain rfl (fun _ _ _ _ _ _ us hl => match us, hl with | [_, _, _], _ => rfl)
theorem kb2 : Kb d_is_name 1 [] (fun vs _ => vs) := kb_plain rfl (fun _ _ _ _ _ _ us hl => match us, hl with | [_], _ => rfl)
theorem kb3 : Kb d_is_text 1 [] (fun vs _ => vs) := kb_plain rfl (fun _ _ _ _ _ _ us hl => match us, hl with | [_], _ => rfl)
theorem kb4 : Kb d_mark_of 1 [] (fun vs _ => vs) := kb_plain rfl (fun _ _ _ _ _ _ us hl => match us, hl with | [_], _ => rfl)
theorem kb5 : Kb d_is_list 2 [] (fun vs _ => vs) := kb_plain rfl (fun _ _ _ _ _ _ us hl => match us, hl with | [_, _], _ => rfl)
theorem kb6 : Kb d_is_piece 1 ["last"] (fun vs zs => vs ++ zs) := kb_kwF rfl (fun _ _ _ _ _ _ us ws h1 h2 => match us, h1, ws, h2 with | [_], _, [_], _ => rfl)
theorem kb7 : Kb d_is_mark 1 [] (fun vs _ => vs) := kb_plain rfl (fun _ _ _ _ _ _ us hl => match us, hl with | [_], _ => rfl)
theorem kb8 : Kb d_is_card 1 [] (fun vs _ => vs) := kb_plain rfl (fun _ _ _ _ _ _ us hl => match us, hl with | [_], _ => rfl)
theorem kb9 : Kb d_need_card 1 [] (fun vs _ => vs) := kb_plain rfl (fun _ _ _ _ _ _ us hl => match us, hl with | [_], _ => rfl)
theorem kb10 : Kb d_fits 3 [] (fun vs _ => vs) := kb_plain rfl (fun _ _ _ _ _ _ us hl => match us, hl with | [_, _, _], _ => rfl)
theorem kb11 : Kb d_first_wrong 2 [] (fun vs _ => vs) := kb_plain rfl (fun _ _ _ _ _ _ us hl => match us, hl with | [_, _], _ => rfl)
theorem kb12 : Kb d_whole_text 2 [] (fun vs _ => vs) := kb_plain rfl (fun _ _ _ _ _ _ us hl => match us, hl with | [_, _], _ => rfl)
theorem kb13 : Kb d__law_cell 2 [] (fun vs _ => vs) := kb_plain rfl (fun _ _ _ _ _ _ us hl => match us, hl with | [_, _], _ => rfl)
theorem kb14 : Kb d__law_box 1 [] (fun vs _ => vs) := kb_plain rfl (fun _ _ _ _ _ _ us hl => match us, hl with | [_], _ => rfl)
theorem kb15 : Kb d__law_take 2 [] (fun vs _ => vs) := kb_plain rfl (fun _ _ _ _ _ _ us hl => match us, hl with | [_, _], _ => rfl)
theorem kb16 : Kb d__law_text 2 [] (fun vs _ => vs) := kb_plain rfl (fun _ _ _ _ _ _ us hl => match us, hl with | [_, _], _ => rfl)
theorem kb17 : Kb d__law_cut 1 [] (fun vs _ => vs) := kb_plain rfl (fun _ _ _ _ _ _ us hl => match us, hl with | [_], _ => rfl)
theorem kb18 : Kb d__law_mark 1 [] (fun vs _ => vs) := kb_plain rfl (fun _ _ _ _ _ _ us hl => match us, hl with | [_], _ => rfl)
theorem kb19 : Kb d__law_marks 1 [] (fun vs _ => vs) := kb_plain rfl (fun _ _ _ _ _ _ us hl => match us, hl with | [_], _ => rfl)
theorem kb20 : Kb d__law_thing 1 [] (fun vs _ => vs) := kb_plain rfl (fun _ _ _ _ _ _ us hl => match us, hl with | [_], _ => rfl)
theorem kb21 : Kb d__law_grown 1 [] (fun vs _ => vs) := kb_plain rfl (fun _ _ _ _ _ _ us hl => match us, hl with | [_], _ => rfl)
theorem kb21h : Kb d__law_grown_h 1 [] (fun vs _ => vs) := kb_plain rfl (fun _ _ _ _ _ _ us hl => match us, hl with | [_], _ => rfl)
theorem kb22 : Kb d__law_turned 2 [] (fun vs _ => vs) := kb_plain rfl (fun _ _ _ _ _ _ us hl => match us, hl with | [_, _], _ => rfl)
theorem kb23 : Kb d__law_bent 2 [] (fun vs _ => vs) := kb_plain rfl (fun _ _ _ _ _ _ us hl => match us, hl with | [_, _], _ => rfl)
theorem kb24 : Kb d__law_fits 3 [] (fun vs _ => vs) := kb_plain rfl (fun _ _ _ _ _ _ us hl => match us, hl with | [_, _, _], _ => rfl)
theorem kb25 : Kb d__law_wrong 2 [] (fun vs _ => vs) := kb_plain rfl (fun _ _ _ _ _ _ us hl => match us, hl with | [_, _], _ => rfl)
theorem kb26 : Kb d__law_whole_due 2 [] (fun vs _ => vs) := kb_plain rfl (fun _ _ _ _ _ _ us hl => match us, hl with | [_, _], _ => rfl)
theorem kb27 : Kb d__law_whole_right 2 [] (fun vs _ => vs) := kb_plain rfl (fun _ _ _ _ _ _ us hl => match us, hl with | [_, _], _ => rfl)
theorem kb28 : Kb d__law_refused 3 [] (fun vs _ => vs) := kb_plain rfl (fun _ _ _ _ _ _ us hl => match us, hl with | [_, _, _], _ => rfl)
theorem kb29 : Kb d__law_too_many 2 [] (fun vs _ => vs) := kb_plain rfl (fun _ _ _ _ _ _ us hl => match us, hl with | [_, _], _ => rfl)
theorem kb30 : Kb d__law_other_kind_right 1 [] (fun vs _ => vs) := kb_plain rfl (fun _ _ _ _ _ _ us hl => match us, hl with | [_], _ => rfl)
theorem kb31 : Kb d__law_many_right 1 [] (fun vs _ => vs) := kb_plain rfl (fun _ _ _ _ _ _ us hl => match us, hl with | [_], _ => rfl)
theorem kb32 : Kb d_law 1 [] (fun vs _ => vs) := kb_plain rfl (fun _ _ _ _ _ _ us hl => match us, hl with | [_], _ => rfl)
def dx_NoText : Df := ⟨("NoText", some "__init__"), "__init__", "NoText.__init__", inClass (top 3) 0, ["self", "found"], ["self", "found"], [], [], false⟩
def dx_NoCard : Df := ⟨("NoCard", some "__init__"), "__init__", "NoCard.__init__", inClass (top 5) 0, ["self", "found"], ["self", "found"], [], [], false⟩
def dx_NoList : Df := ⟨("NoList", some "__init__"), "__init__", "NoList.__init__", inClass (top 4) 0, ["self", "found"], ["self", "found"], [], [], false⟩
def dx_Away : Df := ⟨("Away", some "__init__"), "__init__", "Away.__init__", inClass (top 6) 0, ["self", "found"], ["self", "found"], [], [], false⟩
def dx_Lacks : Df := ⟨("Lacks", some "__init__"), "__init__", "Lacks.__init__", inClass (top 7) 0, ["self", "found"], ["self", "found"], [], [], false⟩
def dx_WrongPiece : Df := ⟨("WrongPiece", some "__init__"), "__init__", "WrongPiece.__init__", inClass (top 8) 0, ["self", "at"], ["self", "at"], [], [], false⟩
def y : Sy where
  ds := ("is_whole", d_is_whole) :: ("is_name", d_is_name) :: ("is_text", d_is_text) :: ("mark_of", d_mark_of) :: ("is_list", d_is_list) :: ("is_piece", d_is_piece) :: ("is_mark", d_is_mark) :: ("is_card", d_is_card) :: ("need_card", d_need_card) :: ("fits", d_fits) :: ("first_wrong", d_first_wrong) :: ("whole_text", d_whole_text) :: ("_law_cell", d__law_cell) :: ("_law_box", d__law_box) :: ("_law_take", d__law_take) :: ("_law_text", d__law_text) :: ("_law_cut", d__law_cut) :: ("_law_mark", d__law_mark) :: ("_law_marks", d__law_marks) :: ("_law_thing", d__law_thing) :: ("_law_grown", d__law_grown) :: ("_law_turned", d__law_turned) :: ("_law_bent", d__law_bent) :: ("_law_fits", d__law_fits) :: ("_law_wrong", d__law_wrong) :: ("_law_whole_due", d__law_whole_due) :: ("_law_whole_right", d__law_whole_right) :: ("_law_refused", d__law_refused) :: ("_law_too_many", d__law_too_many) :: ("_law_other_kind_right", d__law_other_kind_right) :: ("_law_many_right", d__law_many_right) :: ("law", d_law) :: ("~_law_grown", d__law_grown_h) :: []
  hcs := ("~_law_grown", ⟨"_law_grown", 1, [], fun vs _ => vs⟩) :: []
  cps := ⟨"is_whole", 3, [], fun vs _ => vs⟩ :: ⟨"is_name", 1, [], fun vs _ => vs⟩ :: ⟨"is_text", 1, [], fun vs _ => vs⟩ :: ⟨"mark_of", 1, [], fun vs _ => vs⟩ :: ⟨"is_list", 2, [], fun vs _ => vs⟩ :: ⟨"is_piece", 1, ["last"], fun vs zs => vs ++ zs⟩ :: ⟨"is_mark", 1, [], fun vs _ => vs⟩ :: ⟨"is_card", 1, [], fun vs _ => vs⟩ :: ⟨"need_card", 1, [], fun vs _ => vs⟩ :: ⟨"fits", 3, [], fun vs _ => vs⟩ :: ⟨"first_wrong", 2, [], fun vs _ => vs⟩ :: ⟨"whole_text", 2, [], fun vs _ => vs⟩ :: ⟨"_law_cell", 2, [], fun vs _ => vs⟩ :: ⟨"_law_box", 1, [], fun vs _ => vs⟩ :: ⟨"_law_take", 2, [], fun vs _ => vs⟩ :: ⟨"_law_text", 2, [], fun vs _ => vs⟩ :: ⟨"_law_cut", 1, [], fun vs _ => vs⟩ :: ⟨"_law_mark", 1, [], fun vs _ => vs⟩ :: ⟨"_law_marks", 1, [], fun vs _ => vs⟩ :: ⟨"_law_thing", 1, [], fun vs _ => vs⟩ :: ⟨"_law_grown", 1, [], fun vs _ => vs⟩ :: ⟨"_law_turned", 2, [], fun vs _ => vs⟩ :: ⟨"_law_bent", 2, [], fun vs _ => vs⟩ :: ⟨"_law_fits", 3, [], fun vs _ => vs⟩ :: ⟨"_law_wrong", 2, [], fun vs _ => vs⟩ :: ⟨"_law_whole_due", 2, [], fun vs _ => vs⟩ :: ⟨"_law_whole_right", 2, [], fun vs _ => vs⟩ :: ⟨"_law_refused", 3, [], fun vs _ => vs⟩ :: ⟨"_law_too_many", 2, [], fun vs _ => vs⟩ :: ⟨"_law_other_kind_right", 1, [], fun vs _ => vs⟩ :: ⟨"_law_many_right", 1, [], fun vs _ => vs⟩ :: ⟨"law", 1, [], fun vs _ => vs⟩ :: []
  nums := [("RING", 256), ("MOST_PIECES", 8), ("MOST_NUMBER", 999999), ("MOST_SIGNS", 60), ("MARK_PRIME", 251), ("PER_CENT", 37), ("PIECE_SIGNS", 8), ("MOST_THINGS", 100)]
  txts := [("LETTERS", "abcdefghijklmnopqrstuvwxyz")]
  blt := ["len", "isinstance", "all", "max", "min", "ord", "int", "str", "list", "tuple", "dict", "range", "enumerate", "bool", "repr"]
  cms := []
  cks := []
  cls := []
  ats := []
  xcs := [⟨"NoText", .val, "PeerError", "found", "found", dx_NoText⟩, ⟨"NoCard", .val, "PeerError", "found", "found", dx_NoCard⟩, ⟨"NoList", .val, "PeerError", "found", "found", dx_NoList⟩, ⟨"Away", .loo, "Barred", "found", "found", dx_Away⟩, ⟨"Lacks", .loo, "Barred", "found", "found", dx_Lacks⟩, ⟨"WrongPiece", .loo, "Barred", "at", "at", dx_WrongPiece⟩]
  xcl := ["Away", "WrongPiece", "Lacks", "NoCard", "NoList", "PeerError"]
  ex := fun K => xcX K (He.ga K "NoText") [(He.ga K "Away", false), (He.ga K "WrongPiece", false), (He.ga K "Lacks", false), (He.ga K "NoCard", false), (He.ga K "NoList", false), (He.ga K "PeerError", true)] [] && xcX K (He.ga K "NoCard") [(He.ga K "Away", false), (He.ga K "WrongPiece", false), (He.ga K "Lacks", false), (He.ga K "NoCard", true), (He.ga K "NoList", false), (He.ga K "PeerError", true)] [] && xcX K (He.ga K "NoList") [(He.ga K "Away", false), (He.ga K "WrongPiece", false), (He.ga K "Lacks", false), (He.ga K "NoCard", false), (He.ga K "NoList", true), (He.ga K "PeerError", true)] [] && xcX K (He.ga K "Away") [(He.ga K "Away", true), (He.ga K "WrongPiece", false), (He.ga K "Lacks", false), (He.ga K "NoCard", false), (He.ga K "NoList", false), (He.ga K "PeerError", false)] [] && xcX K (He.ga K "Lacks") [(He.ga K "Away", false), (He.ga K "WrongPiece", false), (He.ga K "Lacks", true), (He.ga K "NoCard", false), (He.ga K "NoList", false), (He.ga K "PeerError", false)] [] && xcX K (He.ga K "WrongPiece") [(He.ga K "Away", false), (He.ga K "WrongPiece", true), (He.ga K "Lacks", false), (He.ga K "NoCard", false), (He.ga K "NoList", false), (He.ga K "PeerError", false)] []
  nes := []
abbrev gg (K : PySem.W.Frag) (S : Str → Sp) : G := gOf (y.tb K) S
def r_is_whole (K : PySem.W.Frag) (S : Str → Sp) (W : WX) : TS :=
  (tRet (cAnd K (tCB (bIsi K) (tCons (cVar 0) (tCons (tC (.ty "int")) tNil))) (cAnd K (cNot K (tCB (bIsi K) (tCons (cVar 0) (tCons (tC (.ty "bool")) tNil)))) (cChain oLe oLe (cVar 1) (cVar 0) (cVar 2)))))
theorem e_is_whole (K : PySem.W.Frag) (S : Str → Sp) (W : WX) : tBody (tS (gg K S) 40 d_is_whole.N (defScope d_is_whole.st)) (defBody d_is_whole.st) W = r_is_whole K S W := by kernel_rfl
def r_is_name (K : PySem.W.Frag) (S : Str → Sp) (W : WX) : TS :=
  (tRet (cAnd K (tCB (bIsi K) (tCons (cVar 0) (tCons (tC (.ty "str")) tNil))) (cAnd K (cChain oLe oLe (tC (.int 1)) (tCB (bLenG (gg K S)) (tCons (cVar 0) tNil)) (tC (.int 8))) (tCB (bAll K) (tCons (cLcL (cIter K (frzE (cVar 0))) (gName 1) tYes (tOp (oIn K false) (cVar 1) (tC (.str "abcdefghijklmnopqrstuvwxyz"))) [1]) tNil)))))
theorem e_is_name (K : PySem.W.Frag) (S : Str → Sp) (W : WX) : tBody (tS (gg K S) 40 d_is_name.N (defScope d_is_name.st)) (defBody d_is_name.st) W = r_is_name K S W := by kernel_rfl
def r_is_text (K : PySem.W.Frag) (S : Str → Sp) (W : WX) : TS :=
  (tSeq (tIfS (tOr (tNot (cTru K (tCB (bIsi K) (tCons (cVar 0) (tCons (tC (.ty "str")) tNil))))) (cTest (tOp (oGtK K) (tCB (bLenG (gg K S)) (tCons (cVar 0) tNil)) (tC (.int 60)))))
  (tRet (tC (.bl false)))
  tNext)
  (tRet (tCB (bAll K) (tCons (cLcL (cIter K (frzE (cVar 0))) (gName 1) tYes (cAnd K (cChain oLe oLe (tC (.str " ")) (cVar 1) (tC (.str "~"))) (tOp (oNeG (gg K S)) (tCB (bOrd) (tCons (cVar 1) tNil)) (tC (.int 37)))) [1]) tNil))))
theorem e_is_text (K : PySem.W.Frag) (S : Str → Sp) (W : WX) : tBody (tS (gg K S) 40 d_is_text.N (defScope d_is_text.st)) (defBody d_is_text.st) W = r_is_text K S W := by kernel_rfl
def r_mark_of (K : PySem.W.Frag) (S : Str → Sp) (W : WX) : TS :=
  (tSeq (tIfS (tNot (cTru K (cCall (S "is_text") 1 0 (fun vs _ => vs) (tCons (cVar 0) tNil) tNil W)))
  (tRs W (He.ga K "NoText") "found" (cVar 0))
  tNext)
  (tSeq (tAsg (tTup (tCons (tC (.int 1)) (tCons (tC (.int 0)) tNil))) (cTupG K 2 (gCons (gName 2) (gCons (gName 3) gNil))))
  (tSeq (orL (cFor (cIter K (frzE (cVar 0))) (gName 1)
  (tSeq (tAsg (tOp oMod (tOp (oAdd K) (cVar 2) (tCB (bOrd) (tCons (cVar 1) tNil))) (tC (.int 251))) (gName 2))
  (tAsg (tOp oMod (tOp (oAdd K) (cVar 3) (cVar 2)) (tC (.int 251))) (gName 3)))))
  (tRet (tOp (oAdd K) (tOp oMul (tC (.int 256)) (cVar 3)) (cVar 2))))))
theorem e_mark_of (K : PySem.W.Frag) (S : Str → Sp) (W : WX) : tBody (tS (gg K S) 40 d_mark_of.N (defScope d_mark_of.st)) (defBody d_mark_of.st) W = r_mark_of K S W := by kernel_rfl
def r_is_list (K : PySem.W.Frag) (S : Str → Sp) (W : WX) : TS :=
  (tRet (cAnd K (tCB (bIsi K) (tCons (cVar 0) (tCons (tTup (tCons (tC (.ty "list")) (tCons (tC (.ty "tuple")) tNil))) tNil))) (tOp oLe (tCB (bLenG (gg K S)) (tCons (cVar 0) tNil)) (cVar 1))))
theorem e_is_list (K : PySem.W.Frag) (S : Str → Sp) (W : WX) : tBody (tS (gg K S) 40 d_is_list.N (defScope d_is_list.st)) (defBody d_is_list.st) W = r_is_list K S W := by kernel_rfl
def r_is_piece (K : PySem.W.Frag) (S : Str → Sp) (W : WX) : TS :=
  (tSeq (tIfS (tNot (cTru K (cCall (S "is_text") 1 0 (fun vs _ => vs) (tCons (cVar 0) tNil) tNil W)))
  (tRet (tC (.bl false)))
  tNext)
  (tRet (tIf (cTru K (cVar 1)) (cChain oLe oLe (tC (.int 1)) (tCB (bLenG (gg K S)) (tCons (cVar 0) tNil)) (tC (.int 8))) (tOp (oEqG (gg K S)) (tCB (bLenG (gg K S)) (tCons (cVar 0) tNil)) (tC (.int 8))))))
theorem e_is_piece (K : PySem.W.Frag) (S : Str → Sp) (W : WX) : tBody (tS (gg K S) 40 d_is_piece.N (defScope d_is_piece.st)) (defBody d_is_piece.st) W = r_is_piece K S W := by kernel_rfl
def r_is_mark (K : PySem.W.Frag) (S : Str → Sp) (W : WX) : TS :=
  (tRet (cAnd K (cCall (S "is_whole") 3 0 (fun vs _ => vs) (tCons (cVar 0) (tCons (tC (.int 0)) (tCons (tOp oMul (tC (.int 256)) (tC (.int 251))) tNil))) tNil W) (cAnd K (tOp (oLtK K) (tOp oFdiv (cVar 0) (tC (.int 256))) (tC (.int 251))) (tOp (oLtK K) (tOp oMod (cVar 0) (tC (.int 256))) (tC (.int 251))))))
theorem e_is_mark (K : PySem.W.Frag) (S : Str → Sp) (W : WX) : tBody (tS (gg K S) 40 d_is_mark.N (defScope d_is_mark.st)) (defBody d_is_mark.st) W = r_is_mark K S W := by kernel_rfl
def r_is_card (K : PySem.W.Frag) (S : Str → Sp) (W : WX) : TS :=
  (tSeq (tIfS (tOr (tNot (cTru K (tCB (bIsi K) (tCons (cVar 0) (tCons (tC (.ty "tuple")) tNil))))) (cTest (tOp (oNeG (gg K S)) (tCB (bLenG (gg K S)) (tCons (cVar 0) tNil)) (tC (.int 4)))))
  (tRet (tC (.bl false)))
  tNext)
  (tSeq (tAsg (cVar 0) (cTupG K 4 (gCons (gName 1) (gCons (gName 2) (gCons (gName 3) (gCons (gName 4) gNil))))))
  (tSeq (tIfS (tOr (tNot (cTru K (cCall (S "is_name") 1 0 (fun vs _ => vs) (tCons (cVar 1) tNil) tNil W))) (tOr (tNot (cTru K (cCall (S "is_whole") 3 0 (fun vs _ => vs) (tCons (cVar 2) (tCons (tC (.int 1)) (tCons (tC (.int 999999)) tNil))) tNil W))) (tNot (cTru K (cCall (S "is_name") 1 0 (fun vs _ => vs) (tCons (cVar 3) tNil) tNil W)))))
  (tRet (tC (.bl false)))
  tNext)
  (tSeq (tIfS (cTest (tOp oIs (cVar 4) (tC .non)))
  (tRet (tC (.bl true)))
  tNext)
  (tRet (cAnd K (tCB (bIsi K) (tCons (cVar 4) (tCons (tC (.ty "tuple")) tNil))) (cAnd K (tOp oLe (tCB (bLenG (gg K S)) (tCons (cVar 4) tNil)) (tC (.int 8))) (tCB (bAll K) (tCons (cLcL (cIter K (frzE (cVar 4))) (gName 5) tYes (cCall (S "is_mark") 1 0 (fun vs _ => vs) (tCons (cVar 5) tNil) tNil wNone) [5]) tNil)))))))))
theorem e_is_card (K : PySem.W.Frag) (S : Str → Sp) (W : WX) : tBody (tS (gg K S) 40 d_is_card.N (defScope d_is_card.st)) (defBody d_is_card.st) W = r_is_card K S W := by kernel_rfl
def r_need_card (K : PySem.W.Frag) (S : Str → Sp) (W : WX) : TS :=
  (tIfS (tNot (cTru K (cCall (S "is_card") 1 0 (fun vs _ => vs) (tCons (cVar 0) tNil) tNil W)))
  (tRs W (He.ga K "NoCard") "found" (cVar 0))
  tNext)
theorem e_need_card (K : PySem.W.Frag) (S : Str → Sp) (W : WX) : tBody (tS (gg K S) 40 d_need_card.N (defScope d_need_card.st)) (defBody d_need_card.st) W = r_need_card K S W := by kernel_rfl
def r_fits (K : PySem.W.Frag) (S : Str → Sp) (W : WX) : TS :=
  (tSeq (tDrop (cCall (S "need_card") 1 0 (fun vs _ => vs) (tCons (cVar 0) tNil) tNil W))
  (tSeq (tAsg (tOp (oIx K) (cVar 0) (tC (.int 3))) (gName 3))
  (tSeq (tIfS (tOr (cTest (tOp oIs (cVar 3) (tC .non))) (tNot (cTru K (cCall (S "is_whole") 3 0 (fun vs _ => vs) (tCons (cVar 1) (tCons (tC (.int 0)) (tCons (tOp oSub (tCB (bLenG (gg K S)) (tCons (cVar 3) tNil)) (tC (.int 1))) tNil))) tNil W))))
  (tRet (tC (.bl false)))
  tNext)
  (tRet (cAnd K (cCall (S "is_piece") 1 1 (fun vs zs => vs ++ zs) (tCons (cVar 2) tNil) (tCons (tOp (oEqG (gg K S)) (cVar 1) (tOp oSub (tCB (bLenG (gg K S)) (tCons (cVar 3) tNil)) (tC (.int 1)))) tNil) W) (tOp (oEqG (gg K S)) (cCall (S "mark_of") 1 0 (fun vs _ => vs) (tCons (cVar 2) tNil) tNil W) (tOp (oIx K) (cVar 3) (cVar 1))))))))
theorem e_fits (K : PySem.W.Frag) (S : Str → Sp) (W : WX) : tBody (tS (gg K S) 40 d_fits.N (defScope d_fits.st)) (defBody d_fits.st) W = r_fits K S W := by kernel_rfl
def r_first_wrong (K : PySem.W.Frag) (S : Str → Sp) (W : WX) : TS :=
  (tSeq (tDrop (cCall (S "need_card") 1 0 (fun vs _ => vs) (tCons (cVar 0) tNil) tNil W))
  (tSeq (tIfS (tNot (cTru K (cCall (S "is_list") 2 0 (fun vs _ => vs) (tCons (cVar 1) (tCons (tC (.int 100)) tNil)) tNil W)))
  (tRs W (He.ga K "NoList") "found" (cVar 1))
  tNext)
  (tSeq (orL (cFor (cEnum K (tCons (cVar 1) tNil)) (cTupG K 2 (gCons (gName 2) (gCons (gName 3) gNil)))
  (tIfS (tNot (cTru K (cCall (S "fits") 3 0 (fun vs _ => vs) (tCons (cVar 0) (tCons (cVar 2) (tCons (cVar 3) tNil))) tNil W)))
  (tRet (cVar 2))
  tNext)))
  (tRet (tIf (tAnd (cTest (tOp oIsNot (tOp (oIx K) (cVar 0) (tC (.int 3))) (tC .non))) (cTest (tOp (oLtK K) (tCB (bLenG (gg K S)) (tCons (cVar 1) tNil)) (tCB (bLenG (gg K S)) (tCons (tOp (oIx K) (cVar 0) (tC (.int 3))) tNil))))) (tCB (bLenG (gg K S)) (tCons (cVar 1) tNil)) (tC .non))))))
theorem e_first_wrong (K : PySem.W.Frag) (S : Str → Sp) (W : WX) : tBody (tS (gg K S) 40 d_first_wrong.N (defScope d_first_wrong.st)) (defBody d_first_wrong.st) W = r_first_wrong K S W := by kernel_rfl
def r_whole_text (K : PySem.W.Frag) (S : Str → Sp) (W : WX) : TS :=
  (tSeq (tDrop (cCall (S "need_card") 1 0 (fun vs _ => vs) (tCons (cVar 0) tNil) tNil W))
  (tSeq (tIfS (tOr (tNot (cTru K (tCB (bIsi K) (tCons (cVar 1) (tCons (tC (.ty "dict")) tNil))))) (cTest (tOp (oGtK K) (tCB (bLenG (gg K S)) (tCons (cVar 1) tNil)) (tC (.int 100)))))
  (tRs W (He.ga K "NoList") "found" (cVar 1))
  tNext)
  (tSeq (tIfS (cTest (tOp oIs (tOp (oIx K) (cVar 0) (tC (.int 3))) (tC .non)))
  (tRs W (He.ga K "Away") "found" (tOp (oIx K) (cVar 0) (tC (.int 0))))
  tNext)
  (tSeq (tAsg (cLcL (cRng1 (tCons (tCB (bLenG (gg K S)) (tCons (tOp (oIx K) (cVar 0) (tC (.int 3))) tNil)) tNil)) (gName 3) (cTest (tOp (oIn K false) (cVar 3) (cVar 1))) (cVar 3) [3]) (gName 2))
  (tSeq (orL (cFor (cIter K (frzE (cVar 2))) (gName 3)
  (tIfS (tNot (cTru K (cCall (S "fits") 3 0 (fun vs _ => vs) (tCons (cVar 0) (tCons (cVar 3) (tCons (tOp (oIx K) (cVar 1) (cVar 3)) tNil))) tNil W)))
  (tRs W (He.ga K "WrongPiece") "at" (cVar 3))
  tNext)))
  (tSeq (orL (tAsg (cLc (cRng1 (tCons (tCB (bLenG (gg K S)) (tCons (tOp (oIx K) (cVar 0) (tC (.int 3))) tNil)) tNil)) (gName 3) (cTest (tOp (oIn K true) (cVar 3) (cVar 2))) (cVar 3) [3]) (gName 4)))
  (tSeq (tIfS (cTest (tOp (oNeG (gg K S)) (cVar 4) (tLst tNil)))
  (tRs W (He.ga K "Lacks") "found" (cVar 4))
  tNext)
  (tRet (mC (gg K S) "join" 1 0 [] (tC (.str "")) (tCons (cLcL (cIter K (frzE (cVar 2))) (gName 3) tYes (tOp (oIx K) (cVar 1) (cVar 3)) [3]) tNil) tNil W)))))))))
theorem e_whole_text (K : PySem.W.Frag) (S : Str → Sp) (W : WX) : tBody (tS (gg K S) 40 d_whole_text.N (defScope d_whole_text.st)) (defBody d_whole_text.st) W = r_whole_text K S W := by kernel_rfl
def r__law_cell (K : PySem.W.Frag) (S : Str → Sp) (W : WX) : TS :=
  (tSeq (tIfS (cTest (tOp (oLtK K) (cVar 1) (tCB (bLenG (gg K S)) (tCons (cVar 0) tNil))))
  (tRet (tOp (oIx K) (cVar 0) (cVar 1)))
  tNext)
  (tRet (tOp (oAdd K) (tOp oMul (tC (.int 9001)) (cVar 1)) (tC (.int 37)))))
theorem e__law_cell (K : PySem.W.Frag) (S : Str → Sp) (W : WX) : tBody (tS (gg K S) 40 d__law_cell.N (defScope d__law_cell.st)) (defBody d__law_cell.st) W = r__law_cell K S W := by kernel_rfl
def r__law_box (K : PySem.W.Frag) (S : Str → Sp) (W : WX) : TS :=
  (tRet (tLst (tCons (tCB (bMax) (tCons (tC (.int 0)) (tCons (tOp oSub (cVar 0) (tOp oPow (tC (.int 10)) (tC (.int 18)))) tNil))) (tCons (tOp oMod (cVar 0) (tC (.int 2147483563))) (tCons (tC (.int 0)) tNil)))))
theorem e__law_box (K : PySem.W.Frag) (S : Str → Sp) (W : WX) : tBody (tS (gg K S) 40 d__law_box.N (defScope d__law_box.st)) (defBody d__law_box.st) W = r__law_box K S W := by kernel_rfl
def r__law_take (K : PySem.W.Frag) (S : Str → Sp) (W : WX) : TS :=
  (tSeq (tIfS (cTest (tOp (oGtK K) (tOp (oIx K) (cVar 0) (tC (.int 0))) (tC (.int 0))))
  (tSeq (tAsg (tOp oMod (tOp (oIx K) (cVar 0) (tC (.int 0))) (cVar 1)) (gName 3))
  (tSeq (tAsg (tOp oFdiv (tOp (oIx K) (cVar 0) (tC (.int 0))) (cVar 1)) (gSub (cVar 0) (tC (.int 0)) oSet))
  (tRet (cVar 3))))
  tNext)
  (tSeq (tAsg (tOp (oAdd K) (tOp (oIx K) (cVar 0) (tC (.int 2))) (tC (.int 1))) (gSub (cVar 0) (tC (.int 2)) oSet))
  (tSeq (tAsg (tOp oMod (tOp oPow (tOp (oAdd K) (tOp (oAdd K) (tOp (oIx K) (cVar 0) (tC (.int 1))) (tOp oMul (tC (.int 60013)) (tOp (oIx K) (cVar 0) (tC (.int 2))))) (tC (.int 5))) (tC (.int 5))) (tC (.int 2147483647))) (gName 2))
  (tSeq (tAsg (tOp oMod (tOp oPow (tOp (oAdd K) (cVar 2) (tOp oMul (tC (.int 91139)) (tOp (oIx K) (cVar 0) (tC (.int 2))))) (tC (.int 5))) (tC (.int 2147483629))) (gName 2))
  (tRet (tOp oMod (tOp oFdiv (cVar 2) (tC (.int 32))) (cVar 1)))))))
theorem e__law_take (K : PySem.W.Frag) (S : Str → Sp) (W : WX) : tBody (tS (gg K S) 40 d__law_take.N (defScope d__law_take.st)) (defBody d__law_take.st) W = r__law_take K S W := by kernel_rfl
def r__law_text (K : PySem.W.Frag) (S : Str → Sp) (W : WX) : TS :=
  (tSeq (tAsg (tC (.str " !\"#$&'()*+,-./0123456789:;<=>?@ABCDEFGHIJKLMNOPQRSTUVWXYZ[\\]^_`abcdefghijklmnopqrstuvwxyz{|}~")) (gName 2))
  (tRet (mC (gg K S) "join" 1 0 [] (tC (.str "")) (tCons (cLcL (cRng1 (tCons (cVar 1) tNil)) (gName 3) tYes (tOp (oIx K) (cVar 2) (cCall (S "_law_take") 2 0 (fun vs _ => vs) (tCons (cVar 0) (tCons (tCB (bLenG (gg K S)) (tCons (cVar 2) tNil)) tNil)) tNil wNone)) [3]) tNil) tNil W)))
theorem e__law_text (K : PySem.W.Frag) (S : Str → Sp) (W : WX) : tBody (tS (gg K S) 40 d__law_text.N (defScope d__law_text.st)) (defBody d__law_text.st) W = r__law_text K S W := by kernel_rfl
def r__law_cut (K : PySem.W.Frag) (S : Str → Sp) (W : WX) : TS :=
  (tRet (cLcL (cRng3 (tCons (tC (.int 0)) (tCons (tCB (bLenG (gg K S)) (tCons (cVar 0) tNil)) (tCons (tC (.int 8)) tNil)))) (gName 1) tYes (tSl (oSl K) (cVar 0) (cPart (cVar 1)) (cPart (tOp (oAdd K) (cVar 1) (tC (.int 8))))) [1]))
theorem e__law_cut (K : PySem.W.Frag) (S : Str → Sp) (W : WX) : tBody (tS (gg K S) 40 d__law_cut.N (defScope d__law_cut.st)) (defBody d__law_cut.st) W = r__law_cut K S W := by kernel_rfl
def r__law_mark (K : PySem.W.Frag) (S : Str → Sp) (W : WX) : TS :=
  (tSeq (tAsg (tC (.int 1)) (gName 1))
  (tSeq (tAsg (tC (.int 0)) (gName 2))
  (tSeq (orL (cFor (cIter K (frzE (cVar 0))) (gName 3)
  (tSeq (tAsg (tOp oMod (tOp (oAdd K) (cVar 1) (tCB (bOrd) (tCons (cVar 3) tNil))) (tC (.int 251))) (gName 1))
  (tAsg (tOp oMod (tOp (oAdd K) (cVar 2) (cVar 1)) (tC (.int 251))) (gName 2)))))
  (tRet (tOp (oAdd K) (tOp oMul (tC (.int 256)) (cVar 2)) (cVar 1))))))
theorem e__law_mark (K : PySem.W.Frag) (S : Str → Sp) (W : WX) : tBody (tS (gg K S) 40 d__law_mark.N (defScope d__law_mark.st)) (defBody d__law_mark.st) W = r__law_mark K S W := by kernel_rfl
def r__law_marks (K : PySem.W.Frag) (S : Str → Sp) (W : WX) : TS :=
  (tRet (tIf (cTest (tOp oIs (cVar 0) (tC .non))) (tC .non) (tCB (bTuple K) (tCons (cLcL (cIter K (frzE (cCall (S "_law_cut") 1 0 (fun vs _ => vs) (tCons (cVar 0) tNil) tNil W))) (gName 1) tYes (cCall (S "_law_mark") 1 0 (fun vs _ => vs) (tCons (cVar 1) tNil) tNil wNone) [1]) tNil))))
theorem e__law_marks (K : PySem.W.Frag) (S : Str → Sp) (W : WX) : tBody (tS (gg K S) 40 d__law_marks.N (defScope d__law_marks.st)) (defBody d__law_marks.st) W = r__law_marks K S W := by kernel_rfl
def r__law_thing (K : PySem.W.Frag) (S : Str → Sp) (W : WX) : TS :=
  (tSeq (tAsg (tLst (tCons (tC .non) (tCons (tC (.bl true)) (tCons (tC (.bl false)) (tCons (tC (.int 0)) (tCons (tC (.int 1)) (tCons (cUn (tC (.int 1))) (tCons (tOp oPow (tC (.int 10)) (tC (.int 29))) (tCons (tC (.str "")) (tCons (tC (.str "A")) (tCons (tC (.str "a b")) (tCons (tTup tNil) (tCons (tTup (tCons (tC (.int 1)) tNil)) (tCons (tLst tNil) (tCons (tLst (tCons (tC (.str "a")) tNil)) (tCons tDNewK (tCons (tDisp [((tC (.str "a")), (tC (.int 1)))]) (tCons (tTup (tCons (tC (.str "a")) (tCons (tC (.int 1)) (tCons (tC (.str "b")) tNil)))) tNil)))))))))))))))))) (gName 1))
  (tRet (tOp (oIx K) (cVar 1) (cCall (S "_law_take") 2 0 (fun vs _ => vs) (tCons (cVar 0) (tCons (tC (.int 17)) tNil)) tNil W))))
theorem e__law_thing (K : PySem.W.Frag) (S : Str → Sp) (W : WX) : tBody (tS (gg K S) 40 d__law_thing.N (defScope d__law_thing.st)) (defBody d__law_thing.st) W = r__law_thing K S W := by kernel_rfl
def r__law_grown (K : PySem.W.Frag) (S : Str → Sp) (W : WX) : TS :=
  (tSeq (tIfS (cTru K (tCB (bIsi K) (tCons (cVar 0) (tCons (tC (.ty "list")) tNil))))
  (tDrop (mC (gg K S) "append" 1 0 [] (cVar 0) (tCons (tC (.int 7)) tNil) tNil W))
  tNext)
  (tIfS (cTru K (tCB (bIsi K) (tCons (cVar 0) (tCons (tC (.ty "dict")) tNil))))
  (tAsg (tC (.int 7)) (gSub (cVar 0) (tC (.str "more")) oSet))
  tNext))
theorem e__law_grown (K : PySem.W.Frag) (S : Str → Sp) (W : WX) : tBody (tS (gg K S) 40 d__law_grown.N (defScope d__law_grown.st)) (defBody d__law_grown.st) W = r__law_grown K S W := by kernel_rfl
def r__law_turned (K : PySem.W.Frag) (S : Str → Sp) (W : WX) : TS :=
  (tSeq (tAsg (cCall (S "_law_take") 2 0 (fun vs _ => vs) (tCons (cVar 0) (tCons (tCB (bLenG (gg K S)) (tCons (cVar 1) tNil)) tNil)) tNil W) (gName 2))
  (tSeq (tAsg (tC (.str " !\"#$&'()*+,-./0123456789:;<=>?@ABCDEFGHIJKLMNOPQRSTUVWXYZ[\\]^_`abcdefghijklmnopqrstuvwxyz{|}~")) (gName 3))
  (tSeq (tAsg (tOp oSub (tOp (oAdd K) (mC (gg K S) "index" 1 0 [] (cVar 3) (tCons (tOp (oIx K) (cVar 1) (cVar 2)) tNil) tNil W) (tC (.int 1))) (tOp oMul (tC (.int 2)) (cCall (S "_law_take") 2 0 (fun vs _ => vs) (tCons (cVar 0) (tCons (tC (.int 2)) tNil)) tNil W))) (gName 4))
  (tRet (tOp (oAdd K) (tOp (oAdd K) (tSl (oSl K) (cVar 1) tNoPart (cPart (cVar 2))) (tOp (oIx K) (cVar 3) (tOp oMod (cVar 4) (tCB (bLenG (gg K S)) (tCons (cVar 3) tNil))))) (tSl (oSl K) (cVar 1) (cPart (tOp (oAdd K) (cVar 2) (tC (.int 1)))) tNoPart))))))
theorem e__law_turned (K : PySem.W.Frag) (S : Str → Sp) (W : WX) : tBody (tS (gg K S) 40 d__law_turned.N (defScope d__law_turned.st)) (defBody d__law_turned.st) W = r__law_turned K S W := by kernel_rfl
def r__law_bent (K : PySem.W.Frag) (S : Str → Sp) (W : WX) : TS :=
  (tSeq (tIfS (cTest (tOp (oEqG (gg K S)) (cVar 1) (tLst tNil)))
  (tRet (tOp (oIx K) (tLst (tCons (tLst (tCons (tC (.str "a")) tNil)) (tCons (tLst (tCons (tC (.str "")) tNil)) (tCons (tLst (tCons (tC .non) tNil)) (tCons (tLst tNil) tNil))))) (cCall (S "_law_take") 2 0 (fun vs _ => vs) (tCons (cVar 0) (tCons (tC (.int 4)) tNil)) tNil W)))
  tNext)
  (tSeq (tAsg (cCall (S "_law_take") 2 0 (fun vs _ => vs) (tCons (cVar 0) (tCons (tCB (bLenG (gg K S)) (tCons (cVar 1) tNil)) tNil)) tNil W) (gName 2))
  (tSeq (tAsg (cCall (S "_law_take") 2 0 (fun vs _ => vs) (tCons (cVar 0) (tCons (tC (.int 7)) tNil)) tNil W) (gName 3))
  (tSeq (tIfS (tAnd (cTest (tOp (oLtK K) (cVar 3) (tC (.int 2)))) (tAnd (cTru K (tCB (bIsi K) (tCons (tOp (oIx K) (cVar 1) (cVar 2)) (tCons (tC (.ty "str")) tNil)))) (tAnd (cTest (tOp (oNeG (gg K S)) (tOp (oIx K) (cVar 1) (cVar 2)) (tC (.str "")))) (cTest (tOp (oIn K true) (tC (.str "\n")) (tOp (oIx K) (cVar 1) (cVar 2)))))))
  (tRet (tOp (oAdd K) (tOp (oAdd K) (tSl (oSl K) (cVar 1) tNoPart (cPart (cVar 2))) (tLst (tCons (cCall (S "_law_turned") 2 0 (fun vs _ => vs) (tCons (cVar 0) (tCons (tOp (oIx K) (cVar 1) (cVar 2)) tNil)) tNil W) tNil))) (tSl (oSl K) (cVar 1) (cPart (tOp (oAdd K) (cVar 2) (tC (.int 1)))) tNoPart)))
  tNext)
  (tSeq (tIfS (cTest (tOp (oEqG (gg K S)) (cVar 3) (tC (.int 2))))
  (tRet (tOp (oAdd K) (tSl (oSl K) (cVar 1) tNoPart (cPart (cVar 2))) (tSl (oSl K) (cVar 1) (cPart (tOp (oAdd K) (cVar 2) (tC (.int 1)))) tNoPart)))
  tNext)
  (tSeq (tIfS (cTest (tOp (oEqG (gg K S)) (cVar 3) (tC (.int 3))))
  (tRet (tOp (oAdd K) (tSl (oSl K) (cVar 1) tNoPart (cPart (tOp (oAdd K) (cVar 2) (tC (.int 1))))) (tSl (oSl K) (cVar 1) (cPart (cVar 2)) tNoPart)))
  tNext)
  (tSeq (tIfS (cTest (tOp (oEqG (gg K S)) (cVar 3) (tC (.int 4))))
  (tRet (tOp (oAdd K) (tOp (oAdd K) (tSl (oSl K) (cVar 1) tNoPart (cPart (cVar 2))) (cRevS K (tSl (oSl K) (cVar 1) (cPart (cVar 2)) (cPart (tOp (oAdd K) (cVar 2) (tC (.int 2))))))) (tSl (oSl K) (cVar 1) (cPart (tOp (oAdd K) (cVar 2) (tC (.int 2)))) tNoPart)))
  tNext)
  (tSeq (tAsg (tLst (tCons (tC .non) (tCons (tC (.str "")) (tCons (tOp oMul (tC (.str "a")) (tC (.int 9))) (tCons (tC (.int 7)) (tCons (tLst (tCons (tC (.str "a")) tNil)) (tCons (tC (.str "12345678")) (tCons (tC (.str "1234567\n")) tNil)))))))) (gName 4))
  (tRet (tOp (oAdd K) (tOp (oAdd K) (tSl (oSl K) (cVar 1) tNoPart (cPart (cVar 2))) (tLst (tCons (tOp (oIx K) (cVar 4) (cCall (S "_law_take") 2 0 (fun vs _ => vs) (tCons (cVar 0) (tCons (tC (.int 7)) tNil)) tNil W)) tNil))) (tSl (oSl K) (cVar 1) (cPart (tOp (oAdd K) (cVar 2) (tC (.int 1)))) tNoPart)))))))))))
theorem e__law_bent (K : PySem.W.Frag) (S : Str → Sp) (W : WX) : tBody (tS (gg K S) 40 d__law_bent.N (defScope d__law_bent.st)) (defBody d__law_bent.st) W = r__law_bent K S W := by kernel_rfl
def r__law_fits (K : PySem.W.Frag) (S : Str → Sp) (W : WX) : TS :=
  (tSeq (tIfS (tOr (cTest (tOp oIs (cVar 0) (tC .non))) (tOr (tNot (cTru K (tCB (bIsi K) (tCons (cVar 1) (tCons (tC (.ty "int")) tNil))))) (tOr (cTru K (tCB (bIsi K) (tCons (cVar 1) (tCons (tC (.ty "bool")) tNil)))) (tOr (cTest (tOp (oLtK K) (cVar 1) (tC (.int 0)))) (cTest (tOp (oGeK K) (cVar 1) (tCB (bLenG (gg K S)) (tCons (cVar 0) tNil))))))))
  (tRet (tC (.bl false)))
  tNext)
  (tSeq (tIfS (tOr (tNot (cTru K (tCB (bIsi K) (tCons (cVar 2) (tCons (tC (.ty "str")) tNil))))) (tOr (cTest (tOp (oLtK K) (tCB (bLenG (gg K S)) (tCons (cVar 2) tNil)) (tC (.int 1)))) (tOr (cTest (tOp (oGtK K) (tCB (bLenG (gg K S)) (tCons (cVar 2) tNil)) (tC (.int 8)))) (tAnd (cTest (tOp (oLtK K) (cVar 1) (tOp oSub (tCB (bLenG (gg K S)) (tCons (cVar 0) tNil)) (tC (.int 1))))) (cTest (tOp (oLtK K) (tCB (bLenG (gg K S)) (tCons (cVar 2) tNil)) (tC (.int 8))))))))
  (tRet (tC (.bl false)))
  tNext)
  (tSeq (tIfS (cTest (tOp (oNeG (gg K S)) (cLcL (cIter K (frzE (cVar 2))) (gName 3) (tOr (cTest (tOp (oLtK K) (cVar 3) (tC (.str " ")))) (tOr (cTest (tOp (oGtK K) (cVar 3) (tC (.str "~")))) (cTest (tOp (oEqG (gg K S)) (tCB (bOrd) (tCons (cVar 3) tNil)) (tC (.int 37)))))) (cVar 3) [3]) (tLst tNil)))
  (tRet (tC (.bl false)))
  tNext)
  (tRet (tOp (oEqG (gg K S)) (cCall (S "_law_mark") 1 0 (fun vs _ => vs) (tCons (cVar 2) tNil) tNil W) (tOp (oIx K) (cVar 0) (cVar 1)))))))
theorem e__law_fits (K : PySem.W.Frag) (S : Str → Sp) (W : WX) : tBody (tS (gg K S) 40 d__law_fits.N (defScope d__law_fits.st)) (defBody d__law_fits.st) W = r__law_fits K S W := by kernel_rfl
def r__law_wrong (K : PySem.W.Frag) (S : Str → Sp) (W : WX) : TS :=
  (tSeq (orL (cFor (cEnum K (tCons (cVar 1) tNil)) (cTupG K 2 (gCons (gName 2) (gCons (gName 3) gNil)))
  (tIfS (tNot (cTru K (cCall (S "_law_fits") 3 0 (fun vs _ => vs) (tCons (cVar 0) (tCons (cVar 2) (tCons (cVar 3) tNil))) tNil W)))
  (tRet (cVar 2))
  tNext)))
  (tRet (tIf (tAnd (cTest (tOp oIsNot (cVar 0) (tC .non))) (cTest (tOp (oLtK K) (tCB (bLenG (gg K S)) (tCons (cVar 1) tNil)) (tCB (bLenG (gg K S)) (tCons (cVar 0) tNil))))) (tCB (bLenG (gg K S)) (tCons (cVar 1) tNil)) (tC .non))))
theorem e__law_wrong (K : PySem.W.Frag) (S : Str → Sp) (W : WX) : tBody (tS (gg K S) 40 d__law_wrong.N (defScope d__law_wrong.st)) (defBody d__law_wrong.st) W = r__law_wrong K S W := by kernel_rfl
def r__law_whole_due (K : PySem.W.Frag) (S : Str → Sp) (W : WX) : TS :=
  (tSeq (tIfS (cTest (tOp oIs (tOp (oIx K) (cVar 0) (tC (.int 3))) (tC .non)))
  (tRet (tTup (tCons (tC (.str "away")) (tCons (tOp (oIx K) (cVar 0) (tC (.int 0))) tNil))))
  tNext)
  (tSeq (orL (cFor (cRng1 (tCons (tCB (bLenG (gg K S)) (tCons (tOp (oIx K) (cVar 0) (tC (.int 3))) tNil)) tNil)) (gName 2)
  (tIfS (tAnd (cTest (tOp (oIn K false) (cVar 2) (cVar 1))) (tNot (cTru K (cCall (S "_law_fits") 3 0 (fun vs _ => vs) (tCons (tOp (oIx K) (cVar 0) (tC (.int 3))) (tCons (cVar 2) (tCons (tOp (oIx K) (cVar 1) (cVar 2)) tNil))) tNil W))))
  (tRet (tTup (tCons (tC (.str "wrong")) (tCons (cVar 2) tNil))))
  tNext)))
  (tSeq (orL (tAsg (cLc (cRng1 (tCons (tCB (bLenG (gg K S)) (tCons (tOp (oIx K) (cVar 0) (tC (.int 3))) tNil)) tNil)) (gName 2) (cTest (tOp (oIn K true) (cVar 2) (cVar 1))) (cVar 2) [2]) (gName 3)))
  (tSeq (tIfS (cTest (tOp (oNeG (gg K S)) (cVar 3) (tLst tNil)))
  (tRet (tTup (tCons (tC (.str "lacks")) (tCons (cVar 3) tNil))))
  tNext)
  (tRet (tTup (tCons (tC (.str "text")) (tCons (mC (gg K S) "join" 1 0 [] (tC (.str "")) (tCons (cLcL (cRng1 (tCons (tCB (bLenG (gg K S)) (tCons (tOp (oIx K) (cVar 0) (tC (.int 3))) tNil)) tNil)) (gName 2) tYes (tOp (oIx K) (cVar 1) (cVar 2)) [2]) tNil) tNil W) tNil))))))))
theorem e__law_whole_due (K : PySem.W.Frag) (S : Str → Sp) (W : WX) : tBody (tS (gg K S) 40 d__law_whole_due.N (defScope d__law_whole_due.st)) (defBody d__law_whole_due.st) W = r__law_whole_due K S W := by kernel_rfl
def r__law_whole_right (K : PySem.W.Frag) (S : Str → Sp) (W : WX) : TS :=
  (tSeq (tAsg (cCall (S "_law_whole_due") 2 0 (fun vs _ => vs) (tCons (cVar 0) (tCons (cVar 1) tNil)) tNil W) (gName 2))
  (tSeq (tAsg (tCB (bRepr K) (tCons (cVar 1) tNil)) (gName 3))
  (tSeq (tAsg (tTup (tCons (tC (.str "other")) (tCons (tC .non) tNil))) (gName 4))
  (tSeq (tTryW K W [.one (.ref (He.ga K "Away")) (some 5) (fun a cls d => (tAsg (tTup (tCons (tC (.str "away")) (tCons (cXf (gg K S) 5 a cls d "found") tNil))) (gName 4))), .one (.ref (He.ga K "WrongPiece")) (some 5) (fun a cls d => (tAsg (tTup (tCons (tC (.str "wrong")) (tCons (cXf (gg K S) 5 a cls d "at") tNil))) (gName 4))), .one (.ref (He.ga K "Lacks")) (some 5) (fun a cls d => (tAsg (tTup (tCons (tC (.str "lacks")) (tCons (cXf (gg K S) 5 a cls d "found") tNil))) (gName 4)))] fun W =>
  (tAsg (tTup (tCons (tC (.str "text")) (tCons (cCall (S "whole_text") 2 0 (fun vs _ => vs) (tCons (cVar 0) (tCons (cVar 1) tNil)) tNil W) tNil))) (gName 4)))
  (tRet (cAnd K (tOp (oEqG (gg K S)) (tCB (bRepr K) (tCons (cVar 4) tNil)) (tCB (bRepr K) (tCons (cVar 2) tNil))) (tOp (oEqG (gg K S)) (tCB (bRepr K) (tCons (cVar 1) tNil)) (cVar 3))))))))
theorem e__law_whole_right (K : PySem.W.Frag) (S : Str → Sp) (W : WX) : tBody (tS (gg K S) 40 d__law_whole_right.N (defScope d__law_whole_right.st)) (defBody d__law_whole_right.st) W = r__law_whole_right K S W := by kernel_rfl
def r__law_refused (K : PySem.W.Frag) (S : Str → Sp) (W : WX) : TS :=
  (tSeq (tAsg (tLst tNil) (gName 3))
  (tSeq (orL (cFor (cIter K (frzE (tTup (tCons (tC (.int 0)) (tCons (tC (.int 1)) (tCons (tC (.int 2)) tNil)))))) (gName 4)
  (tTryW K W [.one (.ref (He.ga K "NoCard")) (some 5) (fun a cls d => (tSeq (tDrop (cCall (S "~_law_grown") 1 0 (fun vs _ => vs) (tCons (cVar 0) tNil) tNil wNone))
  (tDrop (mCB K "append" 1 (cVar 3) (tCons (cAnd K (tOp (oEqH K) (cVar 2) (tC (.str "card"))) (tOp (oEqH K) (tCB (bRepr K) (tCons (cXf (gg K S) 5 a cls d "found") tNil)) (tCB (bRepr K) (tCons (cVar 0) tNil)))) tNil) wNone)))), .one (.ref (He.ga K "NoList")) (some 5) (fun a cls d => (tSeq (tDrop (cCall (S "~_law_grown") 1 0 (fun vs _ => vs) (tCons (cVar 1) tNil) tNil wNone))
  (tDrop (mCB K "append" 1 (cVar 3) (tCons (cAnd K (tOp (oEqH K) (cVar 2) (tC (.str "list"))) (cAnd K (tOp oLt (cVar 4) (tC (.int 2))) (tOp (oEqH K) (tCB (bRepr K) (tCons (cXf (gg K S) 5 a cls d "found") tNil)) (tCB (bRepr K) (tCons (cVar 1) tNil))))) tNil) wNone)))), .one (.ref (He.ga K "PeerError")) none (fun a cls d => (tRet (tC (.bl false))))] fun W =>
  (tIfS (cTest (tOp (oEqG (gg K S)) (cVar 4) (tC (.int 0))))
  (tDrop (cCall (S "first_wrong") 2 0 (fun vs _ => vs) (tCons (cVar 0) (tCons (cVar 1) tNil)) tNil W))
  (tIfS (cTest (tOp (oEqG (gg K S)) (cVar 4) (tC (.int 1))))
  (tDrop (cCall (S "whole_text") 2 0 (fun vs _ => vs) (tCons (cVar 0) (tCons (cVar 1) tNil)) tNil W))
  (tDrop (cCall (S "fits") 3 0 (fun vs _ => vs) (tCons (cVar 0) (tCons (tC (.int 0)) (tCons (cVar 1) tNil))) tNil W)))))))
  (tRet (tIf (cTest (tOp (oEqG (gg K S)) (cVar 2) (tC (.str "card")))) (tOp (oEqG (gg K S)) (cVar 3) (tLst (tCons (tC (.bl true)) (tCons (tC (.bl true)) (tCons (tC (.bl true)) tNil))))) (tOp (oEqG (gg K S)) (cVar 3) (tLst (tCons (tC (.bl true)) (tCons (tC (.bl true)) tNil))))))))
theorem e__law_refused (K : PySem.W.Frag) (S : Str → Sp) (W : WX) : tBody (tS (gg K S) 40 d__law_refused.N (defScope d__law_refused.st)) (defBody d__law_refused.st) W = r__law_refused K S W := by kernel_rfl
def r__law_too_many (K : PySem.W.Frag) (S : Str → Sp) (W : WX) : TS :=
  (tSeq (tTryW K W [.one (.ref (He.ga K "NoList")) (some 2) (fun a cls d => (tRet (tOp (oEqH K) (cXf (gg K S) 2 a cls d "found") (cVar 1))))] fun W =>
  (tIfS (cTru K (tCB (bIsi K) (tCons (cVar 1) (tCons (tC (.ty "dict")) tNil))))
  (tDrop (cCall (S "whole_text") 2 0 (fun vs _ => vs) (tCons (cVar 0) (tCons (cVar 1) tNil)) tNil W))
  (tDrop (cCall (S "first_wrong") 2 0 (fun vs _ => vs) (tCons (cVar 0) (tCons (cVar 1) tNil)) tNil W))))
  (tRet (tC (.bl false))))
theorem e__law_too_many (K : PySem.W.Frag) (S : Str → Sp) (W : WX) : tBody (tS (gg K S) 40 d__law_too_many.N (defScope d__law_too_many.st)) (defBody d__law_too_many.st) W = r__law_too_many K S W := by kernel_rfl
def r__law_other_kind_right (K : PySem.W.Frag) (S : Str → Sp) (W : WX) : TS :=
  (tSeq (orL (cFor (cIter K (frzE (tLst (tCons (tTup (tCons (tC (.int 0)) (tCons (tLst tNil) tNil))) (tCons (tTup (tCons (tC (.int 0)) (tCons (tLst (tCons (tC (.str "x")) tNil)) tNil))) (tCons (tTup (tCons (tC (.int 0)) (tCons (tTup (tCons (tC (.str "x")) tNil)) tNil))) (tCons (tTup (tCons (tC (.int 1)) (tCons tDNewK tNil))) (tCons (tTup (tCons (tC (.int 1)) (tCons (tDisp [((tC (.int 0)), (tC (.str "x")))]) tNil))) tNil)))))))) (cTupG K 2 (gCons (gName 1) (gCons (gName 2) gNil)))
  (tTryW K W [.one (.ref (He.ga K "NoList")) (some 3) (fun a cls d => (tIfS (cTest (tOp (oNeH K) (cXf (gg K S) 3 a cls d "found") (cVar 2)))
  (tRet (tC (.bl false)))
  tNext))] fun W =>
  (tSeq (tIfS (cTest (tOp (oEqG (gg K S)) (cVar 1) (tC (.int 0))))
  (tDrop (cCall (S "whole_text") 2 0 (fun vs _ => vs) (tCons (cVar 0) (tCons (cVar 2) tNil)) tNil W))
  (tDrop (cCall (S "first_wrong") 2 0 (fun vs _ => vs) (tCons (cVar 0) (tCons (cVar 2) tNil)) tNil W)))
  (tRet (tC (.bl false)))))))
  (tRet (tC (.bl true))))
theorem e__law_other_kind_right (K : PySem.W.Frag) (S : Str → Sp) (W : WX) : tBody (tS (gg K S) 40 d__law_other_kind_right.N (defScope d__law_other_kind_right.st)) (defBody d__law_other_kind_right.st) W = r__law_other_kind_right K S W := by kernel_rfl
def r__law_many_right (K : PySem.W.Frag) (S : Str → Sp) (W : WX) : TS :=
  (tSeq (tIfS (cTest (tOp (oNeG (gg K S)) (cCall (S "first_wrong") 2 0 (fun vs _ => vs) (tCons (tTup (tCons (tC (.str "key")) (tCons (tC (.int 1)) (tCons (tC (.str "a")) (tCons (tTup (tCons (tC (.int 1)) tNil)) tNil))))) (tCons (tOp oMul (tLst (tCons (tC (.str "x")) tNil)) (tC (.int 100))) tNil)) tNil W) (tC (.int 0))))
  (tRet (tC (.bl false)))
  tNext)
  (tSeq (tIfS (tNot (cTru K (cCall (S "_law_whole_right") 2 0 (fun vs _ => vs) (tCons (cVar 0) (tCons (tCB (bDict K) (tCons (cLcL (cRng1 (tCons (tC (.int 100)) tNil)) (gName 1) tYes (tTup (tCons (tOp (oAdd K) (cVar 1) (tC (.int 8))) (tCons (tC (.str "x")) tNil))) [1]) tNil)) tNil)) tNil W)))
  (tRet (tC (.bl false)))
  tNext)
  (tSeq (tIfS (tNot (cTru K (cCall (S "_law_other_kind_right") 1 0 (fun vs _ => vs) (tCons (cVar 0) tNil) tNil W)))
  (tRet (tC (.bl false)))
  tNext)
  (tRet (cAnd K (cCall (S "_law_too_many") 2 0 (fun vs _ => vs) (tCons (cVar 0) (tCons (tOp oMul (tLst (tCons (tC (.str "x")) tNil)) (tC (.int 101))) tNil)) tNil W) (cCall (S "_law_too_many") 2 0 (fun vs _ => vs) (tCons (cVar 0) (tCons (tCB (bDict K) (tCons (cLcL (cRng1 (tCons (tC (.int 101)) tNil)) (gName 1) tYes (tTup (tCons (cVar 1) (tCons (tC (.str "x")) tNil))) [1]) tNil)) tNil)) tNil W))))))
theorem e__law_many_right (K : PySem.W.Frag) (S : Str → Sp) (W : WX) : tBody (tS (gg K S) 40 d__law_many_right.N (defScope d__law_many_right.st)) (defBody d__law_many_right.st) W = r__law_many_right K S W := by kernel_rfl
def r_law (K : PySem.W.Frag) (S : Str → Sp) (W : WX) : TS :=
  (tSeq (orL (cFor (cRng1 (tCons (tCB (bMax) (tCons (tC (.int 2)) (tCons (tCB (bMin) (tCons (tCB (bLenG (gg K S)) (tCons (cVar 0) tNil)) (tCons (tC (.int 8)) tNil))) tNil))) tNil)) (gName 1)
  (tSeq (tAsg (cCall (S "_law_box") 1 0 (fun vs _ => vs) (tCons (cCall (S "_law_cell") 2 0 (fun vs _ => vs) (tCons (cVar 0) (tCons (cVar 1) tNil)) tNil W) tNil) tNil W) (gName 2))
  (tSeq (tAsg (tOp (oIx K) (tLst (tCons (tC .non) (tCons (tC (.str "")) (tCons (cCall (S "_law_text") 2 0 (fun vs _ => vs) (tCons (cVar 2) (tCons (tC (.int 60)) tNil)) tNil W) (tCons (cCall (S "_law_text") 2 0 (fun vs _ => vs) (tCons (cVar 2) (tCons (cCall (S "_law_take") 2 0 (fun vs _ => vs) (tCons (cVar 2) (tCons (tC (.int 61)) tNil)) tNil W) tNil)) tNil W) (tCons (cCall (S "_law_text") 2 0 (fun vs _ => vs) (tCons (cVar 2) (tCons (tC (.int 17)) tNil)) tNil W) tNil)))))) (cCall (S "_law_take") 2 0 (fun vs _ => vs) (tCons (cVar 2) (tCons (tC (.int 5)) tNil)) tNil W)) (gName 3))
  (tSeq (tAsg (tTup (tCons (tC (.str "key")) (tCons (tOp (oAdd K) (tC (.int 1)) (cCall (S "_law_take") 2 0 (fun vs _ => vs) (tCons (cVar 2) (tCons (tC (.int 9)) tNil)) tNil W)) (tCons (tC (.str "ab")) (tCons (cCall (S "_law_marks") 1 0 (fun vs _ => vs) (tCons (cVar 3) tNil) tNil W) tNil))))) (gName 4))
  (tSeq (tAsg (tIf (cTest (tOp oIs (cVar 3) (tC .non))) (tLst tNil) (cCall (S "_law_cut") 1 0 (fun vs _ => vs) (tCons (cVar 3) tNil) tNil W)) (gName 5))
  (tSeq (orL (cFor (cIter K (frzE (tLst (tCons (cVar 5) (tCons (cCall (S "_law_bent") 2 0 (fun vs _ => vs) (tCons (cVar 2) (tCons (cVar 5) tNil)) tNil W) (tCons (cCall (S "_law_bent") 2 0 (fun vs _ => vs) (tCons (cVar 2) (tCons (cCall (S "_law_bent") 2 0 (fun vs _ => vs) (tCons (cVar 2) (tCons (cVar 5) tNil)) tNil W) tNil)) tNil W) (tCons (cVar 5) tNil))))))) (gName 6)
  (tSeq (orL (cFor (cIter K (frzE (tOp (oAdd K) (tLst (tCons (cUn (tC (.int 1))) (tCons (tC (.bl true)) (tCons (tC .non) (tCons (tC (.str "0")) (tCons (tCB (bLenG (gg K S)) (tCons (cVar 6) tNil)) tNil)))))) (tCB (bList K) (tCons (tCB (bRng) (tCons (tCB (bLenG (gg K S)) (tCons (cVar 6) tNil)) tNil)) tNil))))) (gName 8)
  (tSeq (tAsg (tIf (tAnd (cTest (tOp (oIn K false) (cVar 8) (tCB (bRng) (tCons (tCB (bLenG (gg K S)) (tCons (cVar 6) tNil)) tNil)))) (cTest (tOp oIsNot (cVar 8) (tC (.bl true))))) (tOp (oIx K) (cVar 6) (cVar 8)) (tC (.str "12345678"))) (gName 15))
  (tIfS (cTest (tOp (oNeG (gg K S)) (tCB (bRepr K) (tCons (cCall (S "fits") 3 0 (fun vs _ => vs) (tCons (cVar 4) (tCons (cVar 8) (tCons (cVar 15) tNil))) tNil W) tNil)) (tCB (bRepr K) (tCons (cCall (S "_law_fits") 3 0 (fun vs _ => vs) (tCons (tOp (oIx K) (cVar 4) (tC (.int 3))) (tCons (cVar 8) (tCons (cVar 15) tNil))) tNil W) tNil))))
  (tRet (tC (.bl false)))
  tNext))))
  (tSeq (tIfS (cTest (tOp (oNeG (gg K S)) (tCB (bRepr K) (tCons (cCall (S "first_wrong") 2 0 (fun vs _ => vs) (tCons (cVar 4) (tCons (tCB (bTuple K) (tCons (cVar 6) tNil)) tNil)) tNil W) tNil)) (tCB (bRepr K) (tCons (cCall (S "_law_wrong") 2 0 (fun vs _ => vs) (tCons (tOp (oIx K) (cVar 4) (tC (.int 3))) (tCons (cVar 6) tNil)) tNil W) tNil))))
  (tRet (tC (.bl false)))
  tNext)
  (tSeq (tAsg (tCB (bDict K) (tCons (cLEn K (cVar 6)) tNil)) (gName 9))
  (tSeq (tAsg (tCB (bDict K) (tCons (cRevS K (cLEn K (cVar 6))) tNil)) (gName 10))
  (tSeq (tIfS (tOr (tNot (cTru K (cCall (S "_law_whole_right") 2 0 (fun vs _ => vs) (tCons (cVar 4) (tCons (cVar 9) tNil)) tNil W))) (tNot (cTru K (cCall (S "_law_whole_right") 2 0 (fun vs _ => vs) (tCons (cVar 4) (tCons (cVar 10) tNil)) tNil W))))
  (tRet (tC (.bl false)))
  tNext)
  (tSeq (orL (cFor (cRng1 (tCons (tC (.int 2)) tNil)) (gName 11)
  (tSeq (tIfS (cTest (tOp (oNeG (gg K S)) (cVar 9) tDNewK))
  (tDrop (mC (gg K S) "pop" 1 0 [] (cVar 9) (tCons (tOp (oIx K) (tCB (bList K) (tCons (cVar 9) tNil)) (cCall (S "_law_take") 2 0 (fun vs _ => vs) (tCons (cVar 2) (tCons (tCB (bLenG (gg K S)) (tCons (cVar 9) tNil)) tNil)) tNil W)) tNil) tNil W))
  tNext)
  (tIfS (tNot (cTru K (cCall (S "_law_whole_right") 2 0 (fun vs _ => vs) (tCons (cVar 4) (tCons (cVar 9) tNil)) tNil W)))
  (tRet (tC (.bl false)))
  tNext))))
  (tSeq (tAsg (tOp (oIx K) (tLst (tCons (tC .non) (tCons (tC (.str "x")) (tCons (tC (.int 8)) tNil)))) (cCall (S "_law_take") 2 0 (fun vs _ => vs) (tCons (cVar 2) (tCons (tC (.int 3)) tNil)) tNil W)) (gSub (cVar 9) (tC (.str "strange")) oSet))
  (tSeq (tAsg (tC (.str "12345678")) (gSub (cVar 9) (tOp (oAdd K) (tC (.int 8)) (cCall (S "_law_take") 2 0 (fun vs _ => vs) (tCons (cVar 2) (tCons (tC (.int 3)) tNil)) tNil W)) oSet))
  (tIfS (tNot (cTru K (cCall (S "_law_whole_right") 2 0 (fun vs _ => vs) (tCons (cVar 4) (tCons (cVar 9) tNil)) tNil W)))
  (tRet (tC (.bl false)))
  tNext)))))))))))
  (tSeq (tAsg (tOp (oIx K) (tLst (tCons (cCall (S "_law_thing") 1 0 (fun vs _ => vs) (tCons (cVar 2) tNil) tNil W) (tCons (tCB (bList K) (tCons (cVar 4) tNil)) (tCons (tSl (oSl K) (cVar 4) tNoPart (cPart (tC (.int 3)))) (tCons (tC .non) tNil))))) (cCall (S "_law_take") 2 0 (fun vs _ => vs) (tCons (cVar 2) (tCons (tC (.int 4)) tNil)) tNil W)) (gName 7))
  (tSeq (tIfS (tNot (cTru K (cCall (S "_law_many_right") 1 0 (fun vs _ => vs) (tCons (cVar 4) tNil) tNil W)))
  (tRet (tC (.bl false)))
  tNext)
  (orL (cFor (cIter K (frzE (tLst (tCons (tTup (tCons (cVar 7) (tCons (tC .non) (tCons (tC (.str "card")) tNil)))) (tCons (tTup (tCons (cVar 4) (tCons (tC (.int 7)) (tCons (tC (.str "list")) tNil)))) (tCons (tTup (tCons (cVar 4) (tCons (tC .non) (tCons (tC (.str "list")) tNil)))) (tCons (tTup (tCons (cVar 4) (tCons (tC (.str "key")) (tCons (tC (.str "list")) tNil)))) tNil))))))) (cTupG K 3 (gCons (gName 12) (gCons (gName 13) (gCons (gName 14) gNil))))
  (tIfS (tNot (cTru K (cCall (S "_law_refused") 3 0 (fun vs _ => vs) (tCons (cVar 12) (tCons (cVar 13) (tCons (cVar 14) tNil))) tNil W)))
  (tRet (tC (.bl false)))
  tNext))))))))))))
  (tRet (tC (.bl true))))
theorem e_law (K : PySem.W.Frag) (S : Str → Sp) (W : WX) : tBody (tS (gg K S) 40 d_law.N (defScope d_law.st)) (defBody d_law.st) W = r_law K S W := by kernel_rfl
def rh__law_grown (K : PySem.W.Frag) (S : Str → Sp) : TS :=
  (tSeq (tIfS (cTru K (tCB (bIsi K) (tCons (cVar 0) (tCons (tC (.ty "list")) tNil))))
  (tDrop (mCB K "append" 1 (cVar 0) (tCons (tC (.int 7)) tNil) wNone))
  tNext)
  (tIfS (cTru K (tCB (bIsi K) (tCons (cVar 0) (tCons (tC (.ty "dict")) tNil))))
  (tAsg (tC (.int 7)) (gSub (cVar 0) (tC (.str "more")) oSet))
  tNext))
theorem eh__law_grown (K : PySem.W.Frag) (S : Str → Sp) : sBody (hS (gg K S) d__law_grown_h.N (defScope d__law_grown_h.st) none 40) (defBody d__law_grown_h.st) = rh__law_grown K S := by kernel_rfl
abbrev SP (K : PySem.W.Frag) (n : Nat) : Str → Sp := spAt (y.tb K) 40 y.ds n
theorem o_is_whole {K : PySem.W.Frag} {n : Nat} {v0 v1 v2 : V} {H : Hp} {Q : VK} {E : XK} (h : r_is_whole K (SP K n) (fun cls dd _ H1 => E cls dd H1) ⟨fun _ H1 => Q .non H1, Q, fun _ _ => False, fun _ _ => False⟩ [some v0, some v1, some v2] H) : SP K (n + 1) "is_whole" [v0, v1, v2] H Q E := by
  unfold SP
  rw [spAt_succ (d := d_is_whole) rfl]
  refine wpDf_ok rfl rfl ?_
  rw [show gOf (y.tb K) (spAt (y.tb K) 40 y.ds n) = gg K (SP K n) from rfl, e_is_whole]
  exact h
theorem o_is_name {K : PySem.W.Frag} {n : Nat} {v0 : V} {H : Hp} {Q : VK} {E : XK} (h : r_is_name K (SP K n) (fun cls dd _ H1 => E cls dd H1) ⟨fun _ H1 => Q .non H1, Q, fun _ _ => False, fun _ _ => False⟩ [some v0, none] H) : SP K (n + 1) "is_name" [v0] H Q E := by
  unfold SP
  rw [spAt_succ (d := d_is_name) rfl]
  refine wpDf_ok rfl rfl ?_
  rw [show gOf (y.tb K) (spAt (y.tb K) 40 y.ds n) = gg K (SP K n) from rfl, e_is_name]
  exact h
theorem o_is_text {K : PySem.W.Frag} {n : Nat} {v0 : V} {H : Hp} {Q : VK} {E : XK} (h : r_is_text K (SP K n) (fun cls dd _ H1 => E cls dd H1) ⟨fun _ H1 => Q .non H1, Q, fun _ _ => False, fun _ _ => False⟩ [some v0, none] H) : SP K (n + 1) "is_text" [v0] H Q E := by
  unfold SP
  rw [spAt_succ (d := d_is_text) rfl]
  refine wpDf_ok rfl rfl ?_
  rw [show gOf (y.tb K) (spAt (y.tb K) 40 y.ds n) = gg K (SP K n) from rfl, e_is_text]
  exact h
theorem o_mark_of {K : PySem.W.Frag} {n : Nat} {v0 : V} {H : Hp} {Q : VK} {E : XK} (h : r_mark_of K (SP K n) (fun cls dd _ H1 => E cls dd H1) ⟨fun _ H1 => Q .non H1, Q, fun _ _ => False, fun _ _ => False⟩ [some v0, none, none, none] H) : SP K (n + 1) "mark_of" [v0] H Q E := by
  unfold SP
  rw [spAt_succ (d := d_mark_of) rfl]
  refine wpDf_ok rfl rfl ?_
  rw [show gOf (y.tb K) (spAt (y.tb K) 40 y.ds n) = gg K (SP K n) from rfl, e_mark_of]
  exact h
theorem o_is_list {K : PySem.W.Frag} {n : Nat} {v0 v1 : V} {H : Hp} {Q : VK} {E : XK} (h : r_is_list K (SP K n) (fun cls dd _ H1 => E cls dd H1) ⟨fun _ H1 => Q .non H1, Q, fun _ _ => False, fun _ _ => False⟩ [some v0, some v1] H) : SP K (n + 1) "is_list" [v0, v1] H Q E := by
  unfold SP
  rw [spAt_succ (d := d_is_list) rfl]
  refine wpDf_ok rfl rfl ?_
  rw [show gOf (y.tb K) (spAt (y.tb K) 40 y.ds n) = gg K (SP K n) from rfl, e_is_list]
  exact h
theorem o_is_piece {K : PySem.W.Frag} {n : Nat} {v0 v1 : V} {H : Hp} {Q : VK} {E : XK} (h : r_is_piece K (SP K n) (fun cls dd _ H1 => E cls dd H1) ⟨fun _ H1 => Q .non H1, Q, fun _ _ => False, fun _ _ => False⟩ [some v0, some v1] H) : SP K (n + 1) "is_piece" [v0, v1] H Q E := by
  unfold SP
  rw [spAt_succ (d := d_is_piece) rfl]
  refine wpDf_ok rfl rfl ?_
  rw [show gOf (y.tb K) (spAt (y.tb K) 40 y.ds n) = gg K (SP K n) from rfl, e_is_piece]
  exact h
theorem o_is_mark {K : PySem.W.Frag} {n : Nat} {v0 : V} {H : Hp} {Q : VK} {E : XK} (h : r_is_mark K (SP K n) (fun cls dd _ H1 => E cls dd H1) ⟨fun _ H1 => Q .non H1, Q, fun _ _ => False, fun _ _ => False⟩ [some v0] H) : SP K (n + 1) "is_mark" [v0] H Q E := by
  unfold SP
  rw [spAt_succ (d := d_is_mark) rfl]
  refine wpDf_ok rfl rfl ?_
  rw [show gOf (y.tb K) (spAt (y.tb K) 40 y.ds n) = gg K (SP K n) from rfl, e_is_mark]
  exact h
theorem o_is_card {K : PySem.W.Frag} {n : Nat} {v0 : V} {H : Hp} {Q : VK} {E : XK} (h : r_is_card K (SP K n) (fun cls dd _ H1 => E cls dd H1) ⟨fun _ H1 => Q .non H1, Q, fun _ _ => False, fun _ _ => False⟩ [some v0, none, none, none, none, none] H) : SP K (n + 1) "is_card" [v0] H Q E := by
  unfold SP
  rw [spAt_succ (d := d_is_card) rfl]
  refine wpDf_ok rfl rfl ?_
  rw [show gOf (y.tb K) (spAt (y.tb K) 40 y.ds n) = gg K (SP K n) from rfl, e_is_card]
  exact h
theorem o_need_card {K : PySem.W.Frag} {n : Nat} {v0 : V} {H : Hp} {Q : VK} {E : XK} (h : r_need_card K (SP K n) (fun cls dd _ H1 => E cls dd H1) ⟨fun _ H1 => Q .non H1, Q, fun _ _ => False, fun _ _ => False⟩ [some v0] H) : SP K (n + 1) "need_card" [v0] H Q E := by
  unfold SP
  rw [spAt_succ (d := d_need_card) rfl]
  refine wpDf_ok rfl rfl ?_
  rw [show gOf (y.tb K) (spAt (y.tb K) 40 y.ds n) = gg K (SP K n) from rfl, e_need_card]
  exact h
theorem o_fits {K : PySem.W.Frag} {n : Nat} {v0 v1 v2 : V} {H : Hp} {Q : VK} {E : XK} (h : r_fits K (SP K n) (fun cls dd _ H1 => E cls dd H1) ⟨fun _ H1 => Q .non H1, Q, fun _ _ => False, fun _ _ => False⟩ [some v0, some v1, some v2, none] H) : SP K (n + 1) "fits" [v0, v1, v2] H Q E := by
  unfold SP
  rw [spAt_succ (d := d_fits) rfl]
  refine wpDf_ok rfl rfl ?_
  rw [show gOf (y.tb K) (spAt (y.tb K) 40 y.ds n) = gg K (SP K n) from rfl, e_fits]
  exact h
theorem o_first_wrong {K : PySem.W.Frag} {n : Nat} {v0 v1 : V} {H : Hp} {Q : VK} {E : XK} (h : r_first_wrong K (SP K n) (fun cls dd _ H1 => E cls dd H1) ⟨fun _ H1 => Q .non H1, Q, fun _ _ => False, fun _ _ => False⟩ [some v0, some v1, none, none] H) : SP K (n + 1) "first_wrong" [v0, v1] H Q E := by
  unfold SP
  rw [spAt_succ (d := d_first_wrong) rfl]
  refine wpDf_ok rfl rfl ?_
  rw [show gOf (y.tb K) (spAt (y.tb K) 40 y.ds n) = gg K (SP K n) from rfl, e_first_wrong]
  exact h
theorem o_whole_text {K : PySem.W.Frag} {n : Nat} {v0 v1 : V} {H : Hp} {Q : VK} {E : XK} (h : r_whole_text K (SP K n) (fun cls dd _ H1 => E cls dd H1) ⟨fun _ H1 => Q .non H1, Q, fun _ _ => False, fun _ _ => False⟩ [some v0, some v1, none, none, none] H) : SP K (n + 1) "whole_text" [v0, v1] H Q E := by
  unfold SP
  rw [spAt_succ (d := d_whole_text) rfl]
  refine wpDf_ok rfl rfl ?_
  rw [show gOf (y.tb K) (spAt (y.tb K) 40 y.ds n) = gg K (SP K n) from rfl, e_whole_text]
  exact h
theorem o__law_cell {K : PySem.W.Frag} {n : Nat} {v0 v1 : V} {H : Hp} {Q : VK} {E : XK} (h : r__law_cell K (SP K n) (fun cls dd _ H1 => E cls dd H1) ⟨fun _ H1 => Q .non H1, Q, fun _ _ => False, fun _ _ => False⟩ [some v0, some v1] H) : SP K (n + 1) "_law_cell" [v0, v1] H Q E := by
  unfold SP
  rw [spAt_succ (d := d__law_cell) rfl]
  refine wpDf_ok rfl rfl ?_
  rw [show gOf (y.tb K) (spAt (y.tb K) 40 y.ds n) = gg K (SP K n) from rfl, e__law_cell]
  exact h
theorem o__law_box {K : PySem.W.Frag} {n : Nat} {v0 : V} {H : Hp} {Q : VK} {E : XK} (h : r__law_box K (SP K n) (fun cls dd _ H1 => E cls dd H1) ⟨fun _ H1 => Q .non H1, Q, fun _ _ => False, fun _ _ => False⟩ [some v0] H) : SP K (n + 1) "_law_box" [v0] H Q E := by
  unfold SP
  rw [spAt_succ (d := d__law_box) rfl]
  refine wpDf_ok rfl rfl ?_
  rw [show gOf (y.tb K) (spAt (y.tb K) 40 y.ds n) = gg K (SP K n) from rfl, e__law_box]
  exact h
theorem o__law_take {K : PySem.W.Frag} {n : Nat} {v0 v1 : V} {H : Hp} {Q : VK} {E : XK} (h : r__law_take K (SP K n) (fun cls dd _ H1 => E cls dd H1) ⟨fun _ H1 => Q .non H1, Q, fun _ _ => False, fun _ _ => False⟩ [some v0, some v1, none, none] H) : SP K (n + 1) "_law_take" [v0, v1] H Q E := by
  unfold SP
  rw [spAt_succ (d := d__law_take) rfl]
  refine wpDf_ok rfl rfl ?_
  rw [show gOf (y.tb K) (spAt (y.tb K) 40 y.ds n) = gg K (SP K n) from rfl, e__law_take]
  exact h
theorem o__law_text {K : PySem.W.Frag} {n : Nat} {v0 v1 : V} {H : Hp} {Q : VK} {E : XK} (h : r__law_text K (SP K n) (fun cls dd _ H1 => E cls dd H1) ⟨fun _ H1 => Q .non H1, Q, fun _ _ => False, fun _ _ => False⟩ [some v0, some v1, none, none] H) : SP K (n + 1) "_law_text" [v0, v1] H Q E := by
  unfold SP
  rw [spAt_succ (d := d__law_text) rfl]
  refine wpDf_ok rfl rfl ?_
  rw [show gOf (y.tb K) (spAt (y.tb K) 40 y.ds n) = gg K (SP K n) from rfl, e__law_text]
  exact h
theorem o__law_cut {K : PySem.W.Frag} {n : Nat} {v0 : V} {H : Hp} {Q : VK} {E : XK} (h : r__law_cut K (SP K n) (fun cls dd _ H1 => E cls dd H1) ⟨fun _ H1 => Q .non H1, Q, fun _ _ => False, fun _ _ => False⟩ [some v0, none] H) : SP K (n + 1) "_law_cut" [v0] H Q E := by
  unfold SP
  rw [spAt_succ (d := d__law_cut) rfl]
  refine wpDf_ok rfl rfl ?_
  rw [show gOf (y.tb K) (spAt (y.tb K) 40 y.ds n) = gg K (SP K n) from rfl, e__law_cut]
  exact h
theorem o__law_mark {K : PySem.W.Frag} {n : Nat} {v0 : V} {H : Hp} {Q : VK} {E : XK} (h : r__law_mark K (SP K n) (fun cls dd _ H1 => E cls dd H1) ⟨fun _ H1 => Q .non H1, Q, fun _ _ => False, fun _ _ => False⟩ [some v0, none, none, none] H) : SP K (n + 1) "_law_mark" [v0] H Q E := by
  unfold SP
  rw [spAt_succ (d := d__law_mark) rfl]
  refine wpDf_ok rfl rfl ?_
  rw [show gOf (y.tb K) (spAt (y.tb K) 40 y.ds n) = gg K (SP K n) from rfl, e__law_mark]
  exact h
theorem o__law_marks {K : PySem.W.Frag} {n : Nat} {v0 : V} {H : Hp} {Q : VK} {E : XK} (h : r__law_marks K (SP K n) (fun cls dd _ H1 => E cls dd H1) ⟨fun _ H1 => Q .non H1, Q, fun _ _ => False, fun _ _ => False⟩ [some v0, none] H) : SP K (n + 1) "_law_marks" [v0] H Q E := by
  unfold SP
  rw [spAt_succ (d := d__law_marks) rfl]
  refine wpDf_ok rfl rfl ?_
  rw [show gOf (y.tb K) (spAt (y.tb K) 40 y.ds n) = gg K (SP K n) from rfl, e__law_marks]
  exact h
theorem o__law_thing {K : PySem.W.Frag} {n : Nat} {v0 : V} {H : Hp} {Q : VK} {E : XK} (h : r__law_thing K (SP K n) (fun cls dd _ H1 => E cls dd H1) ⟨fun _ H1 => Q .non H1, Q, fun _ _ => False, fun _ _ => False⟩ [some v0, none] H) : SP K (n + 1) "_law_thing" [v0] H Q E := by
  unfold SP
  rw [spAt_succ (d := d__law_thing) rfl]
  refine wpDf_ok rfl rfl ?_
  rw [show gOf (y.tb K) (spAt (y.tb K) 40 y.ds n) = gg K (SP K n) from rfl, e__law_thing]
  exact h
theorem o__law_grown {K : PySem.W.Frag} {n : Nat} {v0 : V} {H : Hp} {Q : VK} {E : XK} (h : r__law_grown K (SP K n) (fun cls dd _ H1 => E cls dd H1) ⟨fun _ H1 => Q .non H1, Q, fun _ _ => False, fun _ _ => False⟩ [some v0] H) : SP K (n + 1) "_law_grown" [v0] H Q E := by
  unfold SP
  rw [spAt_succ (d := d__law_grown) rfl]
  refine wpDf_ok rfl rfl ?_
  rw [show gOf (y.tb K) (spAt (y.tb K) 40 y.ds n) = gg K (SP K n) from rfl, e__law_grown]
  exact h
theorem o__law_turned {K : PySem.W.Frag} {n : Nat} {v0 v1 : V} {H : Hp} {Q : VK} {E : XK} (h : r__law_turned K (SP K n) (fun cls dd _ H1 => E cls dd H1) ⟨fun _ H1 => Q .non H1, Q, fun _ _ => False, fun _ _ => False⟩ [some v0, some v1, none, none, none] H) : SP K (n + 1) "_law_turned" [v0, v1] H Q E := by
  unfold SP
  rw [spAt_succ (d := d__law_turned) rfl]
  refine wpDf_ok rfl rfl ?_
  rw [show gOf (y.tb K) (spAt (y.tb K) 40 y.ds n) = gg K (SP K n) from rfl, e__law_turned]
  exact h
theorem o__law_bent {K : PySem.W.Frag} {n : Nat} {v0 v1 : V} {H : Hp} {Q : VK} {E : XK} (h : r__law_bent K (SP K n) (fun cls dd _ H1 => E cls dd H1) ⟨fun _ H1 => Q .non H1, Q, fun _ _ => False, fun _ _ => False⟩ [some v0, some v1, none, none, none] H) : SP K (n + 1) "_law_bent" [v0, v1] H Q E := by
  unfold SP
  rw [spAt_succ (d := d__law_bent) rfl]
  refine wpDf_ok rfl rfl ?_
  rw [show gOf (y.tb K) (spAt (y.tb K) 40 y.ds n) = gg K (SP K n) from rfl, e__law_bent]
  exact h
theorem o__law_fits {K : PySem.W.Frag} {n : Nat} {v0 v1 v2 : V} {H : Hp} {Q : VK} {E : XK} (h : r__law_fits K (SP K n) (fun cls dd _ H1 => E cls dd H1) ⟨fun _ H1 => Q .non H1, Q, fun _ _ => False, fun _ _ => False⟩ [some v0, some v1, some v2, none] H) : SP K (n + 1) "_law_fits" [v0, v1, v2] H Q E := by
  unfold SP
  rw [spAt_succ (d := d__law_fits) rfl]
  refine wpDf_ok rfl rfl ?_
  rw [show gOf (y.tb K) (spAt (y.tb K) 40 y.ds n) = gg K (SP K n) from rfl, e__law_fits]
  exact h
theorem o__law_wrong {K : PySem.W.Frag} {n : Nat} {v0 v1 : V} {H : Hp} {Q : VK} {E : XK} (h : r__law_wrong K (SP K n) (fun cls dd _ H1 => E cls dd H1) ⟨fun _ H1 => Q .non H1, Q, fun _ _ => False, fun _ _ => False⟩ [some v0, some v1, none, none] H) : SP K (n + 1) "_law_wrong" [v0, v1] H Q E := by
  unfold SP
  rw [spAt_succ (d := d__law_wrong) rfl]
  refine wpDf_ok rfl rfl ?_
  rw [show gOf (y.tb K) (spAt (y.tb K) 40 y.ds n) = gg K (SP K n) from rfl, e__law_wrong]
  exact h
theorem o__law_whole_due {K : PySem.W.Frag} {n : Nat} {v0 v1 : V} {H : Hp} {Q : VK} {E : XK} (h : r__law_whole_due K (SP K n) (fun cls dd _ H1 => E cls dd H1) ⟨fun _ H1 => Q .non H1, Q, fun _ _ => False, fun _ _ => False⟩ [some v0, some v1, none, none] H) : SP K (n + 1) "_law_whole_due" [v0, v1] H Q E := by
  unfold SP
  rw [spAt_succ (d := d__law_whole_due) rfl]
  refine wpDf_ok rfl rfl ?_
  rw [show gOf (y.tb K) (spAt (y.tb K) 40 y.ds n) = gg K (SP K n) from rfl, e__law_whole_due]
  exact h
theorem o__law_whole_right {K : PySem.W.Frag} {n : Nat} {v0 v1 : V} {H : Hp} {Q : VK} {E : XK} (h : r__law_whole_right K (SP K n) (fun cls dd _ H1 => E cls dd H1) ⟨fun _ H1 => Q .non H1, Q, fun _ _ => False, fun _ _ => False⟩ [some v0, some v1, none, none, none, none] H) : SP K (n + 1) "_law_whole_right" [v0, v1] H Q E := by
  unfold SP
  rw [spAt_succ (d := d__law_whole_right) rfl]
  refine wpDf_ok rfl rfl ?_
  rw [show gOf (y.tb K) (spAt (y.tb K) 40 y.ds n) = gg K (SP K n) from rfl, e__law_whole_right]
  exact h
theorem o__law_refused {K : PySem.W.Frag} {n : Nat} {v0 v1 v2 : V} {H : Hp} {Q : VK} {E : XK} (h : r__law_refused K (SP K n) (fun cls dd _ H1 => E cls dd H1) ⟨fun _ H1 => Q .non H1, Q, fun _ _ => False, fun _ _ => False⟩ [some v0, some v1, some v2, none, none, none] H) : SP K (n + 1) "_law_refused" [v0, v1, v2] H Q E := by
  unfold SP
  rw [spAt_succ (d := d__law_refused) rfl]
  refine wpDf_ok rfl rfl ?_
  rw [show gOf (y.tb K) (spAt (y.tb K) 40 y.ds n) = gg K (SP K n) from rfl, e__law_refused]
  exact h
theorem o__law_too_many {K : PySem.W.Frag} {n : Nat} {v0 v1 : V} {H : Hp} {Q : VK} {E : XK} (h : r__law_too_many K (SP K n) (fun cls dd _ H1 => E cls dd H1) ⟨fun _ H1 => Q .non H1, Q, fun _ _ => False, fun _ _ => False⟩ [some v0, some v1, none] H) : SP K (n + 1) "_law_too_many" [v0, v1] H Q E := by
  unfold SP
  rw [spAt_succ (d := d__law_too_many) rfl]
  refine wpDf_ok rfl rfl ?_
  rw [show gOf (y.tb K) (spAt (y.tb K) 40 y.ds n) = gg K (SP K n) from rfl, e__law_too_many]
  exact h
theorem o__law_other_kind_right {K : PySem.W.Frag} {n : Nat} {v0 : V} {H : Hp} {Q : VK} {E : XK} (h : r__law_other_kind_right K (SP K n) (fun cls dd _ H1 => E cls dd H1) ⟨fun _ H1 => Q .non H1, Q, fun _ _ => False, fun _ _ => False⟩ [some v0, none, none, none] H) : SP K (n + 1) "_law_other_kind_right" [v0] H Q E := by
  unfold SP
  rw [spAt_succ (d := d__law_other_kind_right) rfl]
  refine wpDf_ok rfl rfl ?_
  rw [show gOf (y.tb K) (spAt (y.tb K) 40 y.ds n) = gg K (SP K n) from rfl, e__law_other_kind_right]
  exact h
theorem o__law_many_right {K : PySem.W.Frag} {n : Nat} {v0 : V} {H : Hp} {Q : VK} {E : XK} (h : r__law_many_right K (SP K n) (fun cls dd _ H1 => E cls dd H1) ⟨fun _ H1 => Q .non H1, Q, fun _ _ => False, fun _ _ => False⟩ [some v0, none] H) : SP K (n + 1) "_law_many_right" [v0] H Q E := by
  unfold SP
  rw [spAt_succ (d := d__law_many_right) rfl]
  refine wpDf_ok rfl rfl ?_
  rw [show gOf (y.tb K) (spAt (y.tb K) 40 y.ds n) = gg K (SP K n) from rfl, e__law_many_right]
  exact h
theorem o_law {K : PySem.W.Frag} {n : Nat} {v0 : V} {H : Hp} {Q : VK} {E : XK} (h : r_law K (SP K n) (fun cls dd _ H1 => E cls dd H1) ⟨fun _ H1 => Q .non H1, Q, fun _ _ => False, fun _ _ => False⟩ [some v0, none, none, none, none, none, none, none, none, none, none, none, none, none, none, none] H) : SP K (n + 1) "law" [v0] H Q E := by
  unfold SP
  rw [spAt_succ (d := d_law) rfl]
  refine wpDf_ok rfl rfl ?_
  rw [show gOf (y.tb K) (spAt (y.tb K) 40 y.ds n) = gg K (SP K n) from rfl, e_law]
  exact h
theorem oh__law_grown {K : PySem.W.Frag} {n : Nat} {v0 : V} {H : Hp} {Q : VK} {E : XK} (h : rh__law_grown K (SP K n) ⟨fun _ H1 => Q .non H1, Q, fun _ _ => False, fun _ _ => False⟩ [some v0] H) : SP K (n + 1) "~_law_grown" [v0] H Q E := by
  unfold SP
  rw [spAt_succ (d := d__law_grown_h) rfl]
  refine wpDf_okH rfl rfl ?_
  rw [show gOf (y.tb K) (spAt (y.tb K) 40 y.ds n) = gg K (SP K n) from rfl, eh__law_grown]
  exact h
theorem c_append_1 (K : PySem.W.Frag) (S : Str → Sp) : mf (gg K S) "append" 1 [] = [] := by kernel_rfl
theorem c_index_1 (K : PySem.W.Frag) (S : Str → Sp) : mf (gg K S) "index" 1 [] = [] := by kernel_rfl
theorem c_join_1 (K : PySem.W.Frag) (S : Str → Sp) : mf (gg K S) "join" 1 [] = [] := by kernel_rfl
theorem c_pop_1 (K : PySem.W.Frag) (S : Str → Sp) : mf (gg K S) "pop" 1 [] = [] := by kernel_rfl

end WR.L
set_option Elab.async false
set_option linter.all false
set_option maxRecDepth 100000
set_option maxHeartbeats 4000000
namespace WR.L
open PySem PySem.Spec PyProof.Rows L2
/-! ## things, and what repr tells of them -/
theorem textFrom_le {L : Nat} : ∀ (ts : List Str) (k : Nat) (acc : Str), (∀ t ∈ ts, t.length ≤ L) → (textFrom k acc ts).length ≤ acc.length + ts.length * (L + 2)
  | [], k, acc, _ => by show acc.length ≤ _; omega
  | t :: r, k, acc, h => by
    have ih := textFrom_le r (k + 1) (acc ++ (if k > 0 then ", " else "" : String) ++ t) fun t ht => h t (List.mem_cons_of_mem _ ht)
    have e : (acc ++ (if k > 0 then ", " else "" : String) ++ t).length = acc.length + (if k > 0 then 2 else 0) + t.length := by
      rw [strLen_append, strLen_append]
      split <;> rfl
    rw [e] at ih
    have ht := h t List.mem_cons_self
    show (textFrom (k + 1) (acc ++ (if k > 0 then ", " else "" : String) ++ t) r).length ≤ _
    have : (if k > 0 then 2 else 0 : Nat) ≤ 2 := by split <;> omega
    rw [List.length_cons, Nat.succ_mul]
    omega
theorem listText_le {L : Nat} {ts : List Str} (h : ∀ t ∈ ts, t.length ≤ L) : (listText ts).length ≤ ts.length * (L + 2) + 2 := by
  have := textFrom_le ts 0 "[" h
  have e1 : ("[" : Str).length = 1 := rfl
  have e2 : ("]" : Str).length = 1 := rfl
  unfold listText
  rw [strLen_append]
  omega
theorem piled_le {L : Nat} : ∀ {ts : List Str}, (∀ t ∈ ts, t.length ≤ L) → piled ts ≤ ts.length * (L + 2)
  | [], _ => Nat.zero_le _
  | t :: r, h => by
    have ih := piled_le (ts := r) fun t ht => h t (List.mem_cons_of_mem _ ht)
    have ht := h t List.mem_cons_self
    show (t.length + 2) + piled r ≤ _
    rw [List.length_cons, Nat.succ_mul]
    omega
theorem joined_le {L : Nat} {ts : List Str} (h : ∀ t ∈ ts, t.length ≤ L) : (Str.join ", " ts).length ≤ ts.length * (L + 2) := by
  by_cases e : ts = []
  · subst e; exact Nat.zero_le _
  · have := join_length_add ts e
    have := piled_le h
    omega
theorem tupleText_le {L : Nat} {ts : List Str} (h : ∀ t ∈ ts, t.length ≤ L) : (tupleText ts).length ≤ ts.length * (L + 2) + 3 := by
  have := joined_le h
  have e1 : ("(" : Str).length = 1 := rfl
  unfold tupleText
  rw [strLen_append, strLen_append]
  have : ((if ts.length == 1 then ",)" else ")" : String) : Str).length ≤ 2 := by split <;> decide
  omega
theorem dictText_le {L : Nat} {ts : List Str} (h : ∀ t ∈ ts, t.length ≤ L) : (dictText ts).length ≤ ts.length * (L + 2) + 2 := by
  have := joined_le h
  have e1 : ("{" : Str).length = 1 := rfl
  have e2 : ("}" : Str).length = 1 := rfl
  unfold dictText
  rw [strLen_append, strLen_append]
  omega
/-- signs that data may hold -/
def As (s : Str) : Prop := ∀ c ∈ s.cps.toList, c < 128
def okSc : V → Prop
  | .non => True
  | .bl _ => True
  | .int i => i.natAbs < 10 ^ 40
  | .str s => s.length ≤ 100 ∧ As s
  | _ => False
structure Shw (d : PyData) (L k : Nat) : Prop where
  s : PyData.showable d = true
  dp : PyData.depth d ≤ k
  l : (PyData.shown d).length ≤ L
section
variable {K : PySem.W.Frag} {H H' : Hp} {v : V} {vs : List V} {N : Nat}
theorem sc_dx (h : okSc v) : ∃ d, Dx K H v d ∧ Shw d 1100 0 := by
  cases v with
  | non => exact ⟨_, .non, rfl, Nat.le_refl _, by decide⟩
  | bl b => exact ⟨_, .bl b, rfl, Nat.le_refl _, by cases b <;> decide⟩
  | int i =>
    have h : i.natAbs < 10 ^ 40 := h
    refine ⟨_, .int i, ?_, Nat.le_refl _, ?_⟩
    · show decide (i.natAbs.log2 < 1920) = true
      rw [decide_eq_true_eq]
      by_cases z : i.natAbs = 0
      · rw [z]; decide
      · have : i.natAbs < 2 ^ 1920 := Nat.lt_of_lt_of_le h (by decide +kernel)
        exact (Nat.log2_lt z).mpr this
    · have e := int_text_length_le10 (k := 40) (by decide) h
      show (Str.ofString (toString i)).length ≤ 1100
      rw [PySem.ofString_length]
      exact Nat.le_trans e (by decide)
  | str s =>
    obtain ⟨h1, h2⟩ := h
    refine ⟨_, .str s, rfl, Nat.le_refl _, ?_⟩
    have := StrLaws.reprText_len s fun c hc => Nat.lt_of_lt_of_le (h2 c hc) (by decide)
    show (reprText s).length ≤ 1100
    omega
  | ref => exact h.elim
  | _ => exact h.elim
theorem all_dx {L k : Nat} : ∀ {vs : List V}, (∀ v ∈ vs, ∃ d, Dx K H v d ∧ Shw d L k) → ∃ ds, DxAll K H vs ds ∧ PyData.showableAll ds = true ∧ PyData.depthAll ds ≤ k ∧ (PyData.shownAll ds).length = vs.length ∧ ∀ t ∈ PyData.shownAll ds, t.length ≤ L
  | [], _ => ⟨[], .nil, rfl, Nat.zero_le _, rfl, fun t ht => nomatch ht⟩
  | v :: vs, h => by
    obtain ⟨d, h1, h2⟩ := h v List.mem_cons_self
    obtain ⟨ds, a1, a2, a3, a4, a5⟩ := all_dx (vs := vs) fun v hv => h v (List.mem_cons_of_mem _ hv)
    refine ⟨d :: ds, .cons h1 a1, ?_, ?_, ?_, fun t ht => ?_⟩
    · show (d.showable && PyData.showableAll ds) = true
      rw [h2.s, a2]; rfl
    · show max d.depth (PyData.depthAll ds) ≤ k
      have := h2.dp
      omega
    · show (d.shown :: PyData.shownAll ds).length = _
      rw [List.length_cons, List.length_cons, a4]
    · rcases List.mem_cons.mp (show t ∈ d.shown :: PyData.shownAll ds from ht) with rfl | ht
      · exact h2.l
      · exact a5 t ht
/-- a tuple's tree -/
inductive Tre (H : Hp) : Nat → V → Prop
  | sc {n : Nat} {v : V} (h : okSc v) : Tre H n v
  | tup {n : Nat} {p : Addr} {vs : List V} (h : H p = some (.tup vs)) (hl : vs.length ≤ 20) (ha : ∀ v ∈ vs, Tre H n v) : Tre H (n + 1) (.ref p)
theorem Tre.tp {n : Nat} (x : Tp H H') (h : Tre H n v) : Tre H' n v := by
  induction h with
  | sc h => exact .sc h
  | tup h hl _ ih => exact .tup (x _ _ h) hl ih
theorem Tre.up {n m : Nat} (h : Tre H n v) (l : n ≤ m) : Tre H m v := by
  induction h generalizing m with
  | sc h => exact .sc h
  | tup h hl _ ih =>
    cases m with
    | zero => omega
    | succ m => exact .tup h hl fun v hv => ih v hv (by omega)
def bd : Nat → Nat
  | 0 => 1100
  | n + 1 => 20 * (bd n + 2) + 3
theorem bd_mono : ∀ {n m : Nat}, n ≤ m → bd n ≤ bd m
  | 0, m, _ => by
    cases m with
    | zero => exact Nat.le_refl _
    | succ m => have := bd_mono (n := 0) (m := m) (Nat.zero_le _); show bd 0 ≤ 20 * (bd m + 2) + 3; omega
  | n + 1, 0, h => by omega
  | n + 1, m + 1, h => by
    have := bd_mono (n := n) (m := m) (by omega)
    show 20 * (bd n + 2) + 3 ≤ 20 * (bd m + 2) + 3
    omega
theorem Tre.dx {n : Nat} (h : Tre H n v) : ∃ d, Dx K H v d ∧ Shw d (bd n) n := by
  induction h with
  | sc h =>
    obtain ⟨d, h1, h2⟩ := sc_dx (K := K) (H := H) h
    exact ⟨d, h1, h2.s, Nat.le_trans h2.dp (Nat.zero_le _), Nat.le_trans h2.l (bd_mono (n := 0) (Nat.zero_le _))⟩
  | @tup n p vs h hl _ ih =>
    obtain ⟨ds, a1, a2, a3, a4, a5⟩ := all_dx ih
    refine ⟨_, .tup (look_of_tup h) a1, a2, ?_, ?_⟩
    · show PyData.depthAll ds + 1 ≤ n + 1
      omega
    · have := tupleText_le a5
      show (tupleText (PyData.shownAll ds)).length ≤ 20 * (bd n + 2) + 3
      have e : (PyData.shownAll ds).length * (bd n + 2) ≤ 20 * (bd n + 2) := Nat.mul_le_mul_right _ (by omega)
      omega
/-- a dict's entries -/
def okKv (kv : Key × V) : Prop := (∃ s, kv.1 = .inr s ∧ s.length ≤ 100 ∧ As s) ∧ okSc kv.2
theorem kv_dx : ∀ {kvs : List (Key × V)}, (∀ kv ∈ kvs, okKv kv) → ∃ ds, DxKv K H kvs ds ∧ PyData.showableKv ds = true ∧ PyData.depthKv ds ≤ 0 ∧ (PyData.shownKv ds).length = kvs.length ∧ ∀ t ∈ PyData.shownKv ds, t.length ≤ 2300
  | [], _ => ⟨[], .nil, rfl, Nat.zero_le _, rfl, fun t ht => nomatch ht⟩
  | (k, v) :: kvs, h => by
    obtain ⟨⟨s, e, h1, h2⟩, h3⟩ := h (k, v) List.mem_cons_self
    obtain rfl : k = .inr s := e
    obtain ⟨d, d1, d2⟩ := sc_dx (K := K) (H := H) h3
    obtain ⟨ds, a1, a2, a3, a4, a5⟩ := kv_dx (kvs := kvs) fun v hv => h v (List.mem_cons_of_mem _ hv)
    have d0 := d2.dp
    refine ⟨(.str s, d) :: ds, .cons d1 a1, ?_, ?_, ?_, fun t ht => ?_⟩
    · show (true && d.showable && PyData.showableKv ds) = true
      rw [d2.s, a2]; rfl
    · show max (max 0 d.depth) (PyData.depthKv ds) ≤ 0
      omega
    · show ((reprText s ++ ": " ++ d.shown) :: PyData.shownKv ds).length = _
      rw [List.length_cons, List.length_cons, a4]
    · rcases List.mem_cons.mp (show t ∈ (reprText s ++ ": " ++ d.shown) :: PyData.shownKv ds from ht) with rfl | ht
      · have := StrLaws.reprText_len s fun c hc => Nat.lt_of_lt_of_le (h2 c hc) (by decide)
        have := d2.l
        have e : (": " : Str).length = 2 := rfl
        rw [strLen_append, strLen_append]
        omega
      · exact a5 t ht
/-- a thing: a tuple's tree, a list or a dict of such, a tuple with a list within -/
inductive Th (H : Hp) (N : Nat) : V → Prop
  | tt {v : V} (h : Tre H 3 v) : Th H N v
  | lst {p : Addr} {vs : List V} (h : H p = some (.lst vs)) (hl : vs.length ≤ N) (ha : ∀ x ∈ vs, Tre H 2 x) : Th H N (.ref p)
  | dic {p : Addr} {kvs : List (Key × V)} (h : H p = some (.dK kvs)) (hl : kvs.length ≤ N) (ha : ∀ kv ∈ kvs, okKv kv) : Th H N (.ref p)
  | mix {p : Addr} {vs : List V} (h : H p = some (.tup vs)) (hl : vs.length ≤ 20) (ha : ∀ x ∈ vs, Tre H 2 x ∨ ∃ q xs, x = .ref q ∧ H q = some (.lst xs) ∧ xs.length ≤ 20 ∧ ∀ z ∈ xs, okSc z) : Th H N (.ref p)
theorem Th.dx (h : Th H N v) (hN : N ≤ 30) : ∃ d, Dx K H v d ∧ Shw d 15000000 4 := by
  have b2 : bd 2 = 440903 := by decide
  have b3 : bd 3 = 8818103 := by decide
  cases h with
  | tt h =>
    obtain ⟨d, h1, h2⟩ := h.dx (K := K)
    exact ⟨d, h1, h2.s, Nat.le_trans h2.dp (by decide), Nat.le_trans h2.l (by omega)⟩
  | @lst p vs h hl ha =>
    obtain ⟨ds, a1, a2, a3, a4, a5⟩ := all_dx fun v hv => (ha v hv).dx (K := K)
    refine ⟨_, .lst (look_of_lst h) a1, a2, ?_, ?_⟩
    · show PyData.depthAll ds + 1 ≤ 4; omega
    · have := listText_le a5
      show (listText (PyData.shownAll ds)).length ≤ _
      have e : (PyData.shownAll ds).length * (bd 2 + 2) ≤ 30 * (bd 2 + 2) := Nat.mul_le_mul_right _ (by omega)
      omega
  | @dic p kvs h hl ha =>
    obtain ⟨ds, a1, a2, a3, a4, a5⟩ := kv_dx (K := K) (H := H) ha
    refine ⟨_, .dic (.inl h) a1, a2, ?_, ?_⟩
    · show PyData.depthKv ds + 1 ≤ 4; omega
    · have := dictText_le a5
      show (dictText (PyData.shownKv ds)).length ≤ _
      have e : (PyData.shownKv ds).length * (2300 + 2) ≤ 30 * (2300 + 2) := Nat.mul_le_mul_right _ (by omega)
      omega
  | @mix p vs h hl ha =>
    obtain ⟨ds, a1, a2, a3, a4, a5⟩ := all_dx (K := K) (H := H) (vs := vs) (L := bd 2) (k := 2) fun v hv => by
      rcases ha v hv with h | ⟨q, xs, rfl, hq, hx, hz⟩
      · exact h.dx
      · obtain ⟨es, c1, c2, c3, c4, c5⟩ := all_dx (K := K) (H := H) fun z hz' => sc_dx (hz z hz')
        refine ⟨_, .lst (look_of_lst hq) c1, c2, ?_, ?_⟩
        · show PyData.depthAll es + 1 ≤ 2; omega
        · have := listText_le c5
          show (listText (PyData.shownAll es)).length ≤ _
          have e : (PyData.shownAll es).length * (1100 + 2) ≤ 20 * (1100 + 2) := Nat.mul_le_mul_right _ (by omega)
          omega
    refine ⟨_, .tup (look_of_tup h) a1, a2, ?_, ?_⟩
    · show PyData.depthAll ds + 1 ≤ 4; omega
    · have := tupleText_le a5
      show (tupleText (PyData.shownAll ds)).length ≤ _
      have e : (PyData.shownAll ds).length * (bd 2 + 2) ≤ 20 * (bd 2 + 2) := Nat.mul_le_mul_right _ (by omega)
      omega
/-- repr of a thing -/
theorem repr_th (h : Th H N v) (hN : N ≤ 30) : ∃ t : Str, ∀ Q : VK, Q (.str t) H → bRepr K [v] H Q := by
  obtain ⟨d, h1, h2⟩ := h.dx (K := K) hN
  exact ⟨d.shown, fun Q q => ⟨v, d, rfl, h1, h2.s, Nat.le_trans h2.dp (by decide), Nat.le_trans h2.l (by rw [sizeLine_eq]; decide), q⟩⟩
theorem repr_sc (h : okSc v) : ∃ t : Str, ∀ Q : VK, Q (.str t) H → bRepr K [v] H Q := repr_th (N := 0) (.tt (.sc h)) (by decide)
theorem repr_d {d : PyData} {L k : Nat} (h : Dx K H v d) (s : Shw d L k) (hL : L ≤ 16000000) (hk : k ≤ 30) {Q : VK} (q : Q (.str d.shown) H) : bRepr K [v] H Q :=
  ⟨v, d, rfl, h, s.s, Nat.le_trans s.dp (by omega), Nat.le_trans s.l (by rw [sizeLine_eq]; omega), q⟩
end
end WR.L

set_option Elab.async false
set_option linter.all false
set_option maxRecDepth 100000
set_option maxHeartbeats 4000000
namespace WR.L
open PySem PySem.Spec PyProof.Rows L2
section
variable {K : PySem.W.Frag} {n : Nat} {H H' : Hp} {Q : VK} {E : XK} {v : V} {N : Nat} {m : String}
/-! ## looks at things -/
/-- of what kind a thing is -/
inductive Kd (H : Hp) : V → String → Prop
  | non : Kd H .non "NoneType"
  | bl (b : Bool) : Kd H (.bl b) "bool"
  | int (i : Int) : Kd H (.int i) "int"
  | str (s : Str) : Kd H (.str s) "str"
  | lst {a : Addr} {xs : List V} (h : H a = some (.lst xs)) : Kd H (.ref a) "list"
  | tup {a : Addr} {xs : List V} (h : H a = some (.tup xs)) : Kd H (.ref a) "tuple"
  | dK {a : Addr} {kvs : List (Key × V)} (h : H a = some (.dK kvs)) : Kd H (.ref a) "dict"
def kds : List String := ["NoneType", "bool", "int", "str", "list", "tuple", "dict"]
def isK (n T : String) : Bool := decide (n = T) || (decide (n = "bool") && decide (T = "int"))
theorem isK_ok : ∀ n ∈ kds, ∀ T ∈ kindsI, kitB n T = some (isK n T) := by
  intro n hn T hT
  simp only [kds, List.mem_cons, List.not_mem_nil, or_false] at hn
  simp only [kindsI, List.mem_cons, List.not_mem_nil, or_false] at hT
  rcases hn with rfl | rfl | rfl | rfl | rfl | rfl | rfl <;> rcases hT with rfl | rfl | rfl | rfl | rfl | rfl <;> kernel_rfl
theorem Kd.ex {m : String} (x : Ex H H') (k : Kd H v m) : Kd H' v m := by
  cases k with
  | non => exact .non
  | bl b => exact .bl b
  | int i => exact .int i
  | str s => exact .str s
  | lst h => exact .lst (x _ _ h)
  | tup h => exact .tup (x _ _ h)
  | dK h => exact .dK (x _ _ h)
theorem Kd.ty {m : String} (k : Kd H v m) : tyN K H v = some m ∧ m ∈ kds := by
  cases k with
  | non => exact ⟨rfl, by simp [kds]⟩
  | bl b => exact ⟨rfl, by simp [kds]⟩
  | int i => exact ⟨rfl, by simp [kds]⟩
  | str s => exact ⟨rfl, by simp [kds]⟩
  | lst h => exact ⟨ty_lst (look_of_lst h), by simp [kds]⟩
  | tup h => exact ⟨by simp only [tyN, look_of_tup h], by simp [kds]⟩
  | dK h => exact ⟨ty_dK (look_of_dK h), by simp [kds]⟩
theorem isi_k {T m : String} (k : Kd H v m) (hT : T ∈ kindsI) (h : Q (.bl (isK m T)) H) : bIsi K [v, .ty T] H Q := by
  obtain ⟨ht, hm⟩ := k.ty (K := K)
  rw [isi_ty ht (isK_ok m hm T hT)]; exact h
theorem sc_kd (h : okSc v) : ∃ m, Kd H v m := by
  cases v with
  | non => exact ⟨_, .non⟩
  | bl b => exact ⟨_, .bl b⟩
  | int i => exact ⟨_, .int i⟩
  | str s => exact ⟨_, .str s⟩
  | _ => exact h.elim
theorem Tre.kd {k : Nat} (h : Tre H k v) : ∃ m, Kd H v m := by
  cases h with
  | sc h => exact sc_kd h
  | tup h => exact ⟨_, .tup h⟩
theorem Th.kd (h : Th H N v) : ∃ m, Kd H v m := by
  cases h with
  | tt h => exact h.kd
  | lst h => exact ⟨_, .lst h⟩
  | dic h => exact ⟨_, .dK h⟩
  | mix h => exact ⟨_, .tup h⟩
theorem yes_ {σ : L2.St} {R : Bool → Hp → Prop} (h : R true H) : tYes σ H R := h
/-- texts' lengths -/
theorem sc_len {s : Str} (h : okSc (.str s)) : s.length ≤ 1000 := by
  have := h.1; omega
/-- a name: one to eight letters -/
def lets : List Nat := ("abcdefghijklmnopqrstuvwxyz" : Str).cps.toList
def isNm (s : Str) : Bool := decide (1 ≤ s.length) && (decide (s.length ≤ 8) && s.cps.toList.all fun c => decide (c ∈ lets))
def nmV : V → Bool
  | .str s => isNm s
  | _ => false
theorem kb_ss : kitB "str" "str" = some true := kb_str_str
theorem in_letter {c : Nat} {s : Str} {b : Bool} : oIn K b (.str ⟨#[c]⟩) (.str s) H Q = Q (.bl (b ^^ decide (c ∈ s.cps.toList))) H := rfl
theorem lens {s : Str} : s.cps.toList.length = s.length := by simp [Str.length]
/-- a comprehension over a text's signs: f tells of each -/
theorem lc_cps {i : Nat} {σ : St} {s : Str} {te : TE} {f : Nat → V} (hs : s.length ≤ 1000)
    (hf : ∀ c H1 (R : VK), c ∈ s.cps.toList → Ex H H1 → R (f c) H1 → te (σ.set i (some (.str ⟨#[c]⟩))) H1 R)
    (h : ∀ D H', Ex H H' → H D = none → H' D = some (.lst (s.cps.toList.map f)) → Q (.ref D) H') (hw : ∀ v, wipe (σ.set i (some v)) [i] = wipe σ [i]) (hw2 : wipe σ [i] = σ) :
    cLcL (fun σ H R => R (Its s) H) (gName i) tYes te [i] σ H Q := by
  refine .inl ?_
  intro D hD
  refine lpc_inv (n := s.cps.size) (fun j H' => Ex H H' ∧ H' D = some (.lst ((s.cps.toList.take j).map f))) ?_ ?_ ⟨Ex.refl.new hD, by rw [upd_same]; rfl⟩
  · rintro H' ⟨h1, h2⟩
    refine ⟨Nat.le_refl _, h D H' h1 hD ?_⟩
    rw [h2]
    have e : s.cps.toList.take s.cps.size = s.cps.toList := List.take_of_length_le (by simp)
    rw [e]
  · rintro j H' hj ⟨h1, h2⟩ R hR
    refine ⟨hj, ?_⟩
    rintro x H2 ⟨rfl, c, hc, rfl⟩
    rw [hw2]
    have e : s.cps.toList[j]? = some c := by simpa using hc
    refine ⟨(hw _).trans hw2, yes_ ?_⟩
    refine hf c _ _ (List.mem_of_getElem? e) h1 ?_
    refine ⟨_, h2, ?_, hR _ ⟨?_, ?_⟩⟩
    · rw [List.length_map, List.length_take]
      have := small1000 hs
      have e : s.cps.toList.length = s.length := lens
      omega
    · intro a o e
      by_cases hb : a = D
      · subst hb; rw [hD] at e; cases e
      · rw [upd_ne hb]; exact h1 a o e
    · rw [upd_same, List.take_add_one, e]
      simp
/-- .. with a test that f tells: those that are so -/
theorem lc_fil {i : Nat} {σ : St} {s : Str} {tt : L2.TT} {f : Nat → Bool} (hs : s.length ≤ 1000)
    (hf : ∀ c H1 (R : Bool → Hp → Prop), c ∈ s.cps.toList → Ex H H1 → R (f c) H1 → tt (σ.set i (some (.str ⟨#[c]⟩))) H1 R)
    (h : ∀ D H', Ex H H' → H D = none → H' D = some (.lst ((s.cps.toList.filter f).map fun c => V.str ⟨#[c]⟩)) → Q (.ref D) H') (hi : i < σ.length) (hw : ∀ v, wipe (σ.set i (some v)) [i] = wipe σ [i]) (hw2 : wipe σ [i] = σ) :
    cLcL (fun σ H R => R (Its s) H) (gName i) tt (cVar i) [i] σ H Q := by
  refine .inl ?_
  intro D hD
  refine lpc_inv (n := s.cps.size) (fun j H' => Ex H H' ∧ H' D = some (.lst (((s.cps.toList.take j).filter f).map fun c => V.str ⟨#[c]⟩))) ?_ ?_ ⟨Ex.refl.new hD, by rw [upd_same]; rfl⟩
  · rintro H' ⟨h1, h2⟩
    refine ⟨Nat.le_refl _, h D H' h1 hD ?_⟩
    rw [h2]
    have e : s.cps.toList.take s.cps.size = s.cps.toList := List.take_of_length_le (by simp)
    rw [e]
  · rintro j H' hj ⟨h1, h2⟩ R hR
    refine ⟨hj, ?_⟩
    rintro x H2 ⟨rfl, c, hc, rfl⟩
    rw [hw2]
    have e : s.cps.toList[j]? = some c := by simpa using hc
    refine ⟨(hw _).trans hw2, ?_⟩
    refine hf c _ _ (List.mem_of_getElem? e) h1 ?_
    have ex2 : ∀ x : HO, Ex H (upd H2 D x) := fun x a o e => by
      by_cases hb : a = D
      · subst hb; rw [hD] at e; cases e
      · rw [upd_ne hb]; exact h1 a o e
    cases q : f c with
    | true =>
      simp only [if_true, cVar, List.getElem?_set_self hi]
      refine ⟨_, h2, ?_, hR _ ⟨ex2 _, ?_⟩⟩
      · rw [List.length_map]
        have := small1000 hs
        have e : s.cps.toList.length = s.length := lens
        have := List.length_filter_le f (s.cps.toList.take j)
        rw [List.length_take] at this
        omega
      · rw [upd_same, List.take_add_one, e]
        simp [q]
    | false =>
      simp only [Bool.false_eq_true, if_false]
      refine hR _ ⟨h1, ?_⟩
      rw [h2, List.take_add_one, e]
      simp [q]
theorem all_bl {α : Type} {l : List α} {f : α → Bool} {D : Addr} (h : H D = some (.lst (l.map fun c => V.bl (f c)))) (q : Q (.bl (l.all f)) H) : bAll K [.ref D] H Q := by
  refine ⟨D, l.map f, rfl, ?_, ?_⟩
  · rw [look_of_lst h, List.map_map]; rfl
  · have : (l.map f).all id = l.all f := by rw [List.all_map]; rfl
    first | (rw [this]; exact q) | (simpa [List.all_map, Function.comp_def] using q)
theorem s_is_name (k : Kd H v m) (hs : okSc v ∨ m ≠ "str") (h : ∀ H', Ex H H' → Q (.bl (nmV v)) H') : SP K (n+1) "is_name" [v] H Q E := by
  refine o_is_name ?_
  simp only [r_is_name, tSeq, tIfS, tNext, tRet, tRetN, tDrop, tAsg, tC, cVar, tOp, tCB, tCons, tNil, tTup, tLst, tIf, tAnd, tOr, tNot, cTest, cTru, oTru, cAnd, cOr, cNot, cUn, cChain, gName, cTupG, gCons, gNil, gSub, oLt, oLtK, oLe, oGt, oGe, oGtK, oGeK, oBor, oIs, oIsNot, oSub, oMul, oFdiv, oMod, oPow, cPar, cPar3, cAug, tDNewK, cCall, cAttr, frzE, List.mem_singleton, List.lookup_cons_self, List.getElem?_cons_zero, List.getElem?_cons_succ, List.set_cons_zero, List.set_cons_succ, Option.some.injEq, reduceCtorEq, if_true, if_false, Bool.true_eq_false, Bool.false_eq_true, decide_eq_true_eq, ite_true, ite_false, ↓reduceIte, List.length_cons, List.length_nil, true_and, and_true, exists_eq_left', exists_eq_left, List.cons.injEq]
  refine isi_k k (by decide) ?_
  cases k with
  | str s =>
    have hs := sc_len (hs.resolve_right fun z => z rfl)
    simp only [isK, decide_true, Bool.true_or, oTru]
    rw [len_str]
    refine ⟨Nat.le_of_lt (small1000 hs), ?_⟩
    try simp only [tSeq, tIfS, tNext, tRet, tRetN, tDrop, tAsg, tC, cVar, tOp, tCB, tCons, tNil, tTup, tLst, tIf, tAnd, tOr, tNot, cTest, cTru, oTru, cAnd, cOr, cNot, cUn, cChain, gName, cTupG, gCons, gNil, gSub, oLt, oLtK, oLe, oGt, oGe, oGtK, oGeK, oBor, oIs, oIsNot, oSub, oMul, oFdiv, oMod, oPow, cPar, cPar3, cAug, tDNewK, cCall, cAttr, frzE, List.mem_singleton, List.lookup_cons_self, List.getElem?_cons_zero, List.getElem?_cons_succ, List.set_cons_zero, List.set_cons_succ, Option.some.injEq, reduceCtorEq, if_true, if_false, Bool.true_eq_false, Bool.false_eq_true, decide_eq_true_eq, ite_true, ite_false, ↓reduceIte, List.length_cons, List.length_nil, true_and, and_true, exists_eq_left', exists_eq_left, List.cons.injEq]
    unfold nmV isNm at h
    by_cases h1 : 1 ≤ s.length
    · by_cases h8 : s.length ≤ 8
      · rw [decide_eq_true (by exact_mod_cast h1 : (1 : Int) ≤ (s.length : Int)), decide_eq_true (by exact_mod_cast h8 : (s.length : Int) ≤ 8)]
        try simp only [tSeq, tIfS, tNext, tRet, tRetN, tDrop, tAsg, tC, cVar, tOp, tCB, tCons, tNil, tTup, tLst, tIf, tAnd, tOr, tNot, cTest, cTru, oTru, cAnd, cOr, cNot, cUn, cChain, gName, cTupG, gCons, gNil, gSub, oLt, oLtK, oLe, oGt, oGe, oGtK, oGeK, oBor, oIs, oIsNot, oSub, oMul, oFdiv, oMod, oPow, cPar, cPar3, cAug, tDNewK, cCall, cAttr, frzE, List.mem_singleton, List.lookup_cons_self, List.getElem?_cons_zero, List.getElem?_cons_succ, List.set_cons_zero, List.set_cons_succ, Option.some.injEq, reduceCtorEq, if_true, if_false, Bool.true_eq_false, Bool.false_eq_true, decide_eq_true_eq, ite_true, ite_false, ↓reduceIte, List.length_cons, List.length_nil, true_and, and_true, exists_eq_left', exists_eq_left, List.cons.injEq]
        refine lc_cps (f := fun c => V.bl (decide (c ∈ lets))) hs (fun c H1 R hc e q => ?_) (fun D H' e _ hD => ?_) (fun v => rfl) rfl
        · simp only [tOp, tC, cVar, List.set_cons_zero, List.set_cons_succ, List.getElem?_cons_zero, List.getElem?_cons_succ]
          rw [in_letter, Bool.false_xor]
          exact q
        · refine all_bl hD ?_
          have := h H' e
          simpa [h1, h8] using this
      · rw [decide_eq_true (by exact_mod_cast h1 : (1 : Int) ≤ (s.length : Int)), decide_eq_false (by exact_mod_cast h8 : ¬ (s.length : Int) ≤ 8)]
        try simp only [tSeq, tIfS, tNext, tRet, tRetN, tDrop, tAsg, tC, cVar, tOp, tCB, tCons, tNil, tTup, tLst, tIf, tAnd, tOr, tNot, cTest, cTru, oTru, cAnd, cOr, cNot, cUn, cChain, gName, cTupG, gCons, gNil, gSub, oLt, oLtK, oLe, oGt, oGe, oGtK, oGeK, oBor, oIs, oIsNot, oSub, oMul, oFdiv, oMod, oPow, cPar, cPar3, cAug, tDNewK, cCall, cAttr, frzE, List.mem_singleton, List.lookup_cons_self, List.getElem?_cons_zero, List.getElem?_cons_succ, List.set_cons_zero, List.set_cons_succ, Option.some.injEq, reduceCtorEq, if_true, if_false, Bool.true_eq_false, Bool.false_eq_true, decide_eq_true_eq, ite_true, ite_false, ↓reduceIte, List.length_cons, List.length_nil, true_and, and_true, exists_eq_left', exists_eq_left, List.cons.injEq]
        simpa [h8] using h H Ex.refl
    · rw [decide_eq_false (by exact_mod_cast h1 : ¬ (1 : Int) ≤ (s.length : Int))]
      try simp only [tSeq, tIfS, tNext, tRet, tRetN, tDrop, tAsg, tC, cVar, tOp, tCB, tCons, tNil, tTup, tLst, tIf, tAnd, tOr, tNot, cTest, cTru, oTru, cAnd, cOr, cNot, cUn, cChain, gName, cTupG, gCons, gNil, gSub, oLt, oLtK, oLe, oGt, oGe, oGtK, oGeK, oBor, oIs, oIsNot, oSub, oMul, oFdiv, oMod, oPow, cPar, cPar3, cAug, tDNewK, cCall, cAttr, frzE, List.mem_singleton, List.lookup_cons_self, List.getElem?_cons_zero, List.getElem?_cons_succ, List.set_cons_zero, List.set_cons_succ, Option.some.injEq, reduceCtorEq, if_true, if_false, Bool.true_eq_false, Bool.false_eq_true, decide_eq_true_eq, ite_true, ite_false, ↓reduceIte, List.length_cons, List.length_nil, true_and, and_true, exists_eq_left', exists_eq_left, List.cons.injEq]
      simpa [h1] using h H Ex.refl
  | _ =>
    first
      | (simp only [isK, String.reduceEq, decide_false, Bool.false_or, Bool.and_false, oTru, Bool.false_eq_true, if_false]; exact h H Ex.refl)
      | (simp [isK, oTru]; exact h H Ex.refl)
end
end WR.L

set_option Elab.async false
set_option linter.all false
set_option maxRecDepth 100000
set_option maxHeartbeats 4000000
namespace WR.L
open PySem PySem.Spec PyProof.Rows L2
section
variable {K : PySem.W.Frag} {n : Nat} {H H' : Hp} {Q : VK} {E : XK} {v : V} {N : Nat} {m : String}
theorem Kd.int_of (k : Kd H v m) (e : m = "int") : ∃ i, v = .int i := by
  cases k <;> first | exact ⟨_, rfl⟩ | exact absurd e (by decide)
theorem Kd.str_of (k : Kd H v m) (e : m = "str") : ∃ s, v = .str s := by
  cases k <;> first | exact ⟨_, rfl⟩ | exact absurd e (by decide)
def wholeV (lo hi : Int) : V → Bool
  | .int i => decide (lo ≤ i) && decide (i ≤ hi)
  | _ => false
def txC (c : Nat) : Bool := !decide (c < 32) && (!decide (126 < c) && !decide (c = 37))
def okTx (s : Str) : Bool := decide (s.length ≤ 60) && s.cps.toList.all txC
def txV : V → Bool
  | .str s => okTx s
  | _ => false
theorem lt1 {c d : Nat} : decide (([c] : List Nat) < [d]) = decide (c < d) := by
  by_cases h : c < d
  · rw [decide_eq_true h]; exact decide_eq_true (List.Lex.rel h)
  · rw [decide_eq_false h]; refine decide_eq_false fun z => ?_
    cases z with
    | rel z => exact h z
    | cons z => cases z
/-- .. which is no int -/
theorem isK_no {T : String} (hm : m ≠ T) (hb : m = "bool" → T ≠ "int") : isK m T = false := by
  unfold isK
  rw [decide_eq_false hm, Bool.false_or]
  by_cases z : m = "bool"
  · rw [decide_eq_false (hb z), Bool.and_false]
  · rw [decide_eq_false z, Bool.false_and]
theorem wholeV_no {lo hi : Int} (k : Kd H v m) (hm : m ≠ "int") : wholeV lo hi v = false := by
  cases k with
  | int i => exact absurd rfl hm
  | _ => rfl
theorem s_is_whole {lo hi : Int} (k : Kd H v m) (h : Q (.bl (wholeV lo hi v)) H) : SP K (n+1) "is_whole" [v, .int lo, .int hi] H Q E := by
  refine o_is_whole ?_
  simp only [r_is_whole, tSeq, tIfS, tNext, tRet, tRetN, tDrop, tAsg, tC, cVar, tOp, tCB, tCons, tNil, tTup, tLst, tIf, tAnd, tOr, tNot, cTest, cTru, oTru, cAnd, cOr, cNot, cUn, cChain, gName, cTupG, gCons, gNil, gSub, oLt, oLtK, oLe, oGt, oGe, oGtK, oGeK, oBor, oIs, oIsNot, oSub, oMul, oFdiv, oMod, oPow, cPar, cPar3, cAug, tDNewK, cCall, cAttr, frzE, List.mem_singleton, List.lookup_cons_self, List.getElem?_cons_zero, List.getElem?_cons_succ, List.set_cons_zero, List.set_cons_succ, Option.some.injEq, reduceCtorEq, if_true, if_false, Bool.true_eq_false, Bool.false_eq_true, decide_eq_true_eq, ite_true, ite_false, ↓reduceIte, List.length_cons, List.length_nil, true_and, and_true, exists_eq_left', exists_eq_left, List.cons.injEq]
  refine isi_k k (by decide) ?_
  by_cases hi_ : m = "int"
  · subst hi_
    simp only [show isK "int" "int" = true from rfl, oTru]
    refine isi_k k (by decide) ?_
    simp only [show isK "int" "bool" = false from rfl, Bool.not_false, oTru]
    obtain ⟨i, rfl⟩ := k.int_of rfl
    · simp only [tSeq, tIfS, tNext, tRet, tRetN, tDrop, tAsg, tC, cVar, tOp, tCB, tCons, tNil, tTup, tLst, tIf, tAnd, tOr, tNot, cTest, cTru, oTru, cAnd, cOr, cNot, cUn, cChain, gName, cTupG, gCons, gNil, gSub, oLt, oLtK, oLe, oGt, oGe, oGtK, oGeK, oBor, oIs, oIsNot, oSub, oMul, oFdiv, oMod, oPow, cPar, cPar3, cAug, tDNewK, cCall, cAttr, frzE, List.mem_singleton, List.lookup_cons_self, List.getElem?_cons_zero, List.getElem?_cons_succ, List.set_cons_zero, List.set_cons_succ, Option.some.injEq, reduceCtorEq, if_true, if_false, Bool.true_eq_false, Bool.false_eq_true, decide_eq_true_eq, ite_true, ite_false, ↓reduceIte, List.length_cons, List.length_nil, true_and, and_true, exists_eq_left', exists_eq_left, List.cons.injEq]
      unfold wholeV at h
      by_cases a : lo ≤ i
      · simp only [a, decide_true, Bool.true_and] at h ⊢
        exact h
      · simp only [a, decide_false, Bool.false_and] at h ⊢
        exact h
  · rw [wholeV_no k hi_] at h
    by_cases hb : m = "bool"
    · subst hb
      simp only [show isK "bool" "int" = true from rfl, oTru]
      refine isi_k k (by decide) ?_
      simp only [show isK "bool" "bool" = true from rfl, Bool.not_true, oTru, Bool.false_eq_true, if_false]
      exact h
    · simp only [isK_no (m := m) (T := "int") hi_ fun z => absurd z hb, oTru, Bool.false_eq_true, if_false]
      exact h
theorem ole1 {c d : Nat} {s t : Str} (hs : s.cps.toList = [c]) (ht : t.cps.toList = [d]) (q : Q (.bl (!decide (d < c))) H) : oLe (.str s) (.str t) H Q := by
  show Q (.bl (!decide (t.cps.toList < s.cps.toList))) H
  have : decide (t.cps.toList < s.cps.toList) = decide (d < c) := by
    rw [decide_eq_decide, hs, ht]
    constructor
    · intro z
      cases z with
      | rel z => exact z
      | cons z => cases z
    · exact fun z => List.Lex.rel z
  rw [this]
  exact q
theorem ord1 {c : Nat} : bOrd [.str ⟨#[c]⟩] H Q = (((1 : Nat) = 1) ∧ Q (.int (c : Nat)) H) := rfl
theorem str_no (k : Kd H v m) (hm : m ≠ "str") : nmV v = false ∧ txV v = false := by
  cases k with
  | str s => exact absurd rfl hm
  | _ => exact ⟨rfl, rfl⟩
theorem s_is_text (k : Kd H v m) (hs : okSc v ∨ m ≠ "str") (h : ∀ H', Ex H H' → Q (.bl (txV v)) H') : SP K (n+1) "is_text" [v] H Q E := by
  refine o_is_text ?_
  unfold r_is_text
  refine seq_ fun N1 h1 => ifS_ fun A B hA hB => ?_
  simp only [tOr, tNot, cTru, cTest, tSeq, tIfS, tNext, tRet, tRetN, tDrop, tAsg, tC, cVar, tOp, tCB, tCons, tNil, tTup, tLst, tIf, tAnd, tOr, tNot, cTest, cTru, oTru, cAnd, cOr, cNot, cUn, cChain, gName, cTupG, gCons, gNil, gSub, oLt, oLtK, oLe, oGt, oGe, oGtK, oGeK, oBor, oIs, oIsNot, oSub, oMul, oFdiv, oMod, oPow, cPar, cPar3, cAug, tDNewK, cCall, cAttr, frzE, List.mem_singleton, List.lookup_cons_self, List.getElem?_cons_zero, List.getElem?_cons_succ, List.set_cons_zero, List.set_cons_succ, Option.some.injEq, reduceCtorEq, if_true, if_false, Bool.true_eq_false, Bool.false_eq_true, decide_eq_true_eq, ite_true, ite_false, ↓reduceIte, List.length_cons, List.length_nil, true_and, and_true, exists_eq_left', exists_eq_left, List.cons.injEq]
  refine isi_k k (by decide) ?_
  by_cases hm : m = "str"
  · subst hm
    obtain ⟨s, rfl⟩ := k.str_of rfl
    · have hs := sc_len (hs.resolve_right fun z => z rfl)
      simp only [show isK "str" "str" = true from rfl, oTru, Bool.not_true, Bool.false_eq_true, if_false]
      rw [len_str]
      refine ⟨Nat.le_of_lt (small1000 hs), ?_⟩
      simp only [oGtK, oGt]
      have hd : txV (V.str s) = (decide (s.length ≤ 60) && s.cps.toList.all txC) := rfl
      by_cases c60 : s.length ≤ 60
      · rw [if_neg (by omega)]
        refine hB _ ?_
        simp only [tNext]
        refine h1 _ _ ?_
        simp only [tSeq, tIfS, tNext, tRet, tRetN, tDrop, tAsg, tC, cVar, tOp, tCB, tCons, tNil, tTup, tLst, tIf, tAnd, tOr, tNot, cTest, cTru, oTru, cAnd, cOr, cNot, cUn, cChain, gName, cTupG, gCons, gNil, gSub, oLt, oLtK, oLe, oGt, oGe, oGtK, oGeK, oBor, oIs, oIsNot, oSub, oMul, oFdiv, oMod, oPow, cPar, cPar3, cAug, tDNewK, cCall, cAttr, frzE, List.mem_singleton, List.lookup_cons_self, List.getElem?_cons_zero, List.getElem?_cons_succ, List.set_cons_zero, List.set_cons_succ, Option.some.injEq, reduceCtorEq, if_true, if_false, Bool.true_eq_false, Bool.false_eq_true, decide_eq_true_eq, ite_true, ite_false, ↓reduceIte, List.length_cons, List.length_nil, true_and, and_true, exists_eq_left', exists_eq_left, List.cons.injEq]
        refine lc_cps (f := fun c => V.bl (txC c)) hs (fun c H1 R hc e q => ?_) (fun D H' e _ hD => ?_) (fun v => rfl) rfl
        · simp only [cAnd, cChain, tOp, tCB, tCons, tNil, tC, cVar, List.set_cons_zero, List.set_cons_succ, List.getElem?_cons_zero, List.getElem?_cons_succ]
          refine ole1 (c := 32) (d := c) rfl rfl ?_
          unfold txC at q
          by_cases a : c < 32
          · simp only [a, decide_true, Bool.not_true, Bool.false_and] at q ⊢
            simp only [oTru]
            exact q
          · simp only [a, decide_false, Bool.not_false, Bool.true_and] at q ⊢
            refine ole1 (c := c) (d := 126) rfl rfl ?_
            by_cases b : 126 < c
            · simp only [b, decide_true, Bool.not_true, Bool.false_and] at q ⊢
              simp only [oTru]
              exact q
            · simp only [b, decide_false, Bool.not_false, Bool.true_and] at q ⊢
              simp only [oTru]
              rw [ord1]
              refine ⟨rfl, ne_scal rfl rfl rfl ?_⟩
              have : decide (V.int ((c : Nat) : Int) = V.int 37) = decide (c = 37) := by
                by_cases z : c = 37
                · subst z; rfl
                · rw [decide_eq_false z, decide_eq_false fun w => z (by have := V.int.inj w; omega)]
              rw [this]
              exact q
        · refine all_bl hD ?_
          have := h H' e
          rw [hd, decide_eq_true c60, Bool.true_and] at this
          exact this
      · rw [if_pos (by omega)]
        refine hA _ ?_
        simp only [tRet, tC]
        have := h H Ex.refl
        rw [hd, decide_eq_false c60, Bool.false_and] at this
        exact this
  · simp only [isK_no (m := m) (T := "str") hm fun _ => by decide, oTru, Bool.not_false, if_true]
    refine hA _ ?_
    simp only [tRet, tC]
    have := h H Ex.refl
    rw [(str_no k hm).2] at this
    exact this
/-- == [] of a list of signs -/
def okS (s : Str) : Prop := (PyData.str s).canLay0 = true
theorem one_ok {c : Nat} (h : c < 1114112) : okS ⟨#[c]⟩ := by
  show (⟨#[c]⟩ : Str).cps.all (· < 0x110000) = true
  simp
  exact h
theorem dpStrs : ∀ ss : List Str, DpAll K H (ss.map V.str) (ss.map PyData.str)
  | [] => .nil
  | s :: r => .cons (.str s) (dpStrs r)
theorem lay_strs : ∀ {ss : List Str}, (∀ s ∈ ss, okS s) → PyData.canLayAll0 (ss.map PyData.str) = true ∧ PyData.depthAll (ss.map PyData.str) ≤ 1
  | [], h => ⟨rfl, Nat.zero_le _⟩
  | s :: r, h => by
    obtain ⟨h1, h2⟩ := lay_strs (ss := r) fun x hx => h x (List.mem_cons_of_mem _ hx)
    refine ⟨?_, ?_⟩
    · simp only [List.map_cons, PyData.canLayAll0, h1, Bool.and_true]
      exact h s (List.mem_cons_self ..)
    · simp only [List.map_cons, PyData.depthAll]
      exact Nat.max_le.mpr ⟨by simp [PyData.depth], h2⟩
theorem shaped_strs {ss : List Str} (h : ∀ s ∈ ss, okS s) : SeqAt.shaped (.list (ss.map PyData.str)) = true := by
  obtain ⟨h1, h2⟩ := lay_strs h
  unfold SeqAt.shaped
  simp only [PyData.canLay0, PyData.depth, h1, Bool.true_and, decide_eq_true_eq]
  exact decide_eq_true (Nat.succ_le_of_lt (Nat.lt_of_le_of_lt h2 (by decide : 1 < 64)))
theorem eq_nil {a b : Addr} {ss : List Str} {S : Str → Sp} (ha : H a = some (.lst (ss.map V.str))) (hb : H b = some (.lst [])) (h : ∀ s ∈ ss, okS s) (q : Q (.bl ss.isEmpty) H) : oEqG (gg K S) (.ref a) (.ref b) H Q := by
  refine .inl ?_
  unfold oEqG0
  rw [ins_lst (look_of_lst (K := K) ha)]
  refine .inl (.inr ⟨_, _, .lst (.inl (.inl ha)) (dpStrs ss), .lst (.inl (.inl hb)) .nil, shaped_strs h, shaped_strs (ss := []) (fun _ z => nomatch z), ?_⟩)
  have : PyData.eqv (.list (ss.map PyData.str)) (.list []) = ss.isEmpty := by
    cases ss with
    | nil => rfl
    | cons a b => rfl
  rw [this]
  exact q
theorem fil_nil {l : List Nat} {f g : Nat → Bool} (h : ∀ c, f c = !g c) : ((l.filter f).map fun c => (⟨#[c]⟩ : Str)).isEmpty = l.all g := by
  induction l with
  | nil => rfl
  | cons c l ih =>
    rw [List.filter_cons, List.all_cons]
    cases e : g c with
    | true => rw [if_neg (by rw [h, e]; decide)]; simpa using ih
    | false => rw [if_pos (by rw [h, e]; rfl)]; rfl
theorem asc_of {s : Str} (h : okSc (.str s)) : ∀ c ∈ s.cps.toList, c < 1114112 := fun c hc => by
  have := h.2 c hc; omega
end
end WR.L

set_option Elab.async false
set_option linter.all false
set_option maxRecDepth 100000
set_option maxHeartbeats 4000000
namespace WR.L
open PySem PySem.Spec PyProof.Rows L2
theorem tup2_ {K : PySem.W.Frag} {H : Hp} {t : Addr} {i j : Nat} {x y : V} {σ : L2.St} {R : L2.St → Hp → Prop} (h : look K H t = some (.tup [x, y])) (q : R ((σ.set i (some x)).set j (some y)) H) : cTupG K 2 (gCons (gName i) (gCons (gName j) gNil)) (.ref t) σ H R := by
  simp only [cTupG, h, gCons, gName, gNil]
  exact ⟨rfl, _, _, rfl, _, _, rfl, rfl, q⟩
/-- the two sums of a text -/
def mk2 (l : List Nat) : Int × Int := l.foldl (fun (p : Int × Int) (c : Nat) => ((p.1 + (c : Int)) % 251, (p.2 + (p.1 + (c : Int)) % 251) % 251)) (1, 0)
def markF (s : Str) : Int := 256 * (mk2 s.cps.toList).2 + (mk2 s.cps.toList).1
theorem mk2_snoc (l : List Nat) (c : Nat) : mk2 (l ++ [c]) = (((mk2 l).1 + (c : Int)) % 251, ((mk2 l).2 + ((mk2 l).1 + (c : Int)) % 251) % 251) := by
  unfold mk2
  rw [List.foldl_append]
  rfl
theorem mk2_b (l : List Nat) : (0 ≤ (mk2 l).1 ∧ (mk2 l).1 < 251) ∧ 0 ≤ (mk2 l).2 ∧ (mk2 l).2 < 251 := by
  by_cases h : l = []
  · subst h; exact ⟨⟨by decide, by decide⟩, by decide, by decide⟩
  · rw [← List.dropLast_concat_getLast h, mk2_snoc]
    exact ⟨mod_b (by decide), mod_b (by decide)⟩
theorem markF_b (s : Str) : 0 ≤ markF s ∧ markF s ≤ 64250 ∧ markF s % 256 < 251 := by
  have := mk2_b s.cps.toList
  unfold markF
  omega
section
variable {K : PySem.W.Frag} {n : Nat} {H H' : Hp} {Q : VK} {E : XK} {v : V} {N : Nat} {m : String}
theorem ord1' {c : Nat} {R : VK} (q : R (.int (c : Nat)) H) : bOrd [.str ⟨#[c]⟩] H R := ⟨rfl, q⟩
theorem s_mark_of {s : Str} (hs : okTx s = true) (hsc : okSc (.str s)) (h : ∀ H', Ex H H' → Q (.int (markF s)) H') : SP K (n+2) "mark_of" [.str s] H Q E := by
  refine o_mark_of ?_
  unfold r_mark_of
  refine seq_ fun N1 h1 => ifS_ fun A B hA hB => ?_
  simp only [tNot, cTru, cCall, tCons, tNil, cVar, List.getElem?_cons_zero]
  refine ⟨rfl, (by first | rfl | trivial), s_is_text (n := n) (.str s) (.inl hsc) fun H1 e1 => ?_⟩
  simp only [oTru, show txV (V.str s) = true from hs, Bool.not_true, Bool.false_eq_true, if_false]
  refine hB _ ?_
  simp only [tNext]
  refine h1 _ _ (seq_ fun N2 h2 => ?_)
  simp only [tAsg, tTup, tCons, tNil, tC]
  refine ⟨by simp only [sizeLine_eq, List.length_cons, List.length_nil]; omega, fun t ht => ?_⟩
  have e2 : Ex H1 (upd H1 t (.tup [.int 1, .int 0])) := Ex.refl.new ht
  have k2 : (upd H1 t (.tup [.int 1, .int 0])) t = some (.tup [.int 1, .int 0]) := upd_same
  generalize upd H1 t (.tup [.int 1, .int 0]) = H2 at e2 k2 ⊢
  refine tup2_ (look_of_tup k2) (h2 _ _ (seq_ fun N3 h3 => .inl ?_))
  simp only [List.set_cons_zero, List.set_cons_succ]
  simp only [cFor, cIter, frzE, cVar, List.getElem?_cons_zero]
  refine lp_inv (n := s.cps.size) (fun j σ H' => Ex H2 H' ∧ ∃ v1, σ = [some (.str s), v1, some (.int (mk2 (s.cps.toList.take j)).1), some (.int (mk2 (s.cps.toList.take j)).2)]) ?_ ?_ ⟨Ex.refl, none, rfl⟩
  · rintro σ H3 ⟨e3, v1, rfl⟩
    refine ⟨Nat.le_refl _, h3 _ _ ?_⟩
    have e : s.cps.toList.take s.cps.size = s.cps.toList := List.take_of_length_le (by simp)
    rw [e]
    have b := mk2_b s.cps.toList
    simp only [tRet, tOp, tC, cVar, oMul, oAdd, List.getElem?_cons_zero, List.getElem?_cons_succ]
    exact ⟨cmul_of (by decide) (by omega), h _ ((e1.trans e2).trans e3)⟩
  · rintro j σ H3 hj ⟨e3, v1, rfl⟩ R hR
    refine ⟨hj, ?_⟩
    rintro x H4 ⟨rfl, c, hc, rfl⟩
    have e : s.cps.toList[j]? = some c := by simpa using hc
    simp only [gName, List.set_cons_zero, List.set_cons_succ]
    refine seq_ fun N4 h4 => ?_
    simp only [tAsg, tOp, tCB, tCons, tNil, tC, cVar, List.getElem?_cons_zero, List.getElem?_cons_succ]
    refine ord1' ?_
    simp only [oAdd, oMod]
    refine ⟨by decide, h4 _ _ ?_⟩
    simp only [tAsg, tOp, tC, cVar, oAdd, oMod, gName, List.set_cons_zero, List.set_cons_succ, List.getElem?_cons_zero, List.getElem?_cons_succ]
    refine ⟨by decide, hR _ _ ⟨e3, some (.str ⟨#[c]⟩), ?_⟩⟩
    rw [List.take_add_one, e, show (some c).toList = [c] from rfl, mk2_snoc]
theorem s__law_mark {s : Str} (h : ∀ H', Ex H H' → Q (.int (markF s)) H') : SP K (n+2) "_law_mark" [.str s] H Q E := by
  refine o__law_mark ?_
  unfold r__law_mark
  refine seq_ fun N1 h1 => ?_
  simp only [tAsg, tC, gName, List.set_cons_zero, List.set_cons_succ]
  refine h1 _ _ (seq_ fun N2 h2 => ?_)
  simp only [tAsg, tC, gName, List.set_cons_zero, List.set_cons_succ]
  refine h2 _ _ (seq_ fun N3 h3 => .inl ?_)
  simp only [cFor, cIter, frzE, cVar, List.getElem?_cons_zero]
  refine lp_inv (n := s.cps.size) (fun j σ H' => Ex H H' ∧ ∃ v1, σ = [some (.str s), some (.int (mk2 (s.cps.toList.take j)).1), some (.int (mk2 (s.cps.toList.take j)).2), v1]) ?_ ?_ ⟨Ex.refl, none, rfl⟩
  · rintro σ H3 ⟨e3, v1, rfl⟩
    refine ⟨Nat.le_refl _, h3 _ _ ?_⟩
    have e : s.cps.toList.take s.cps.size = s.cps.toList := List.take_of_length_le (by simp)
    rw [e]
    have b := mk2_b s.cps.toList
    simp only [tRet, tOp, tC, cVar, oMul, oAdd, List.getElem?_cons_zero, List.getElem?_cons_succ]
    exact ⟨cmul_of (by decide) (by omega), h _ e3⟩
  · rintro j σ H3 hj ⟨e3, v1, rfl⟩ R hR
    refine ⟨hj, ?_⟩
    rintro x H4 ⟨rfl, c, hc, rfl⟩
    have e : s.cps.toList[j]? = some c := by simpa using hc
    simp only [gName, List.set_cons_zero, List.set_cons_succ]
    refine seq_ fun N4 h4 => ?_
    simp only [tAsg, tOp, tCB, tCons, tNil, tC, cVar, List.getElem?_cons_zero, List.getElem?_cons_succ]
    refine ord1' ?_
    simp only [oAdd, oMod]
    refine ⟨by decide, h4 _ _ ?_⟩
    simp only [tAsg, tOp, tC, cVar, oAdd, oMod, gName, List.set_cons_zero, List.set_cons_succ, List.getElem?_cons_zero, List.getElem?_cons_succ]
    refine ⟨by decide, hR _ _ ⟨e3, some (.str ⟨#[c]⟩), ?_⟩⟩
    rw [List.take_add_one, e, show (some c).toList = [c] from rfl, mk2_snoc]
/-! ## pieces -/
def pcs (s : Str) : List Str := (List.range ((s.length + 7) / 8)).map fun i => cutS s (some ((0 : Int) + (i : Nat) * 8)) (some ((0 : Int) + (i : Nat) * 8 + 8))
theorem rg8 : ∀ j : Nat, j < 101 → Builtin.Range.rangeSize 0 (j : Int) 8 = (((j + 7) / 8 : Nat) : Int) ∧ Builtin.Range.small 0 (j : Int) 8 = true := by decide +kernel
theorem cut_lc {s : Str} {W : WX} {g : G} (hs : s.length ≤ 100) (h : ∀ D H', Ex H H' → H D = none → H' D = some (.lst ((pcs s).map V.str)) → Q (.ref D) H') :
    (cLcL (cRng3 (tCons (tC (.int 0)) (tCons (tCB (bLenG g) (tCons (cVar 0) tNil)) (tCons (tC (.int 8)) tNil)))) (gName 1) tYes (tSl (oSl K) (cVar 0) (cPart (cVar 1)) (cPart (tOp (oAdd K) (cVar 1) (tC (.int 8))))) [1]) [some (.str s), none] H Q := by
  refine .inl ?_
  simp only [cLc, cRng3, tCB, tCons, tNil, tC, cVar, List.getElem?_cons_zero]
  rw [len_str]
  obtain ⟨r1, r2⟩ := rg8 s.length (by omega)
  refine ⟨Nat.le_of_lt (small1000 (by omega)), (s.length + 7) / 8, ⟨by decide, by decide, r2, r1⟩, fun D hD => ?_⟩
  refine lpc_inv (n := (s.length + 7) / 8) (fun j H' => Ex H H' ∧ H' D = some (.lst (((pcs s).take j).map V.str))) ?_ ?_ ⟨Ex.refl.new hD, by rw [upd_same]; rfl⟩
  · rintro H1 ⟨e1, k1⟩
    refine ⟨Nat.le_refl _, h D H1 e1 hD ?_⟩
    rw [k1, List.take_of_length_le (by simp [pcs])]
  · rintro j H1 hj ⟨e1, k1⟩ R hR
    refine ⟨hj, ?_⟩
    rintro x H2 ⟨rfl, rfl⟩
    refine ⟨rfl, yes_ ?_⟩
    simp only [tSl, cPart, tOp, tC, cVar, oAdd, oSl, gName, wipe, List.foldl_cons, List.foldl_nil, List.set_cons_zero, List.set_cons_succ, List.getElem?_cons_zero, List.getElem?_cons_succ]
    refine ⟨Nat.le_of_lt (small1000 (by omega)), _, k1, by rw [List.length_map, List.length_take]; exact small1000 (by simp [pcs]; omega), hR _ ⟨e1.new hD, ?_⟩⟩
    have hj' : j < (pcs s).length := by simp [pcs]; exact hj
    rw [upd_same, List.take_succ_eq_append_getElem hj', List.map_append]
    simp [pcs]
theorem s__law_cut {s : Str} (hs : s.length ≤ 100) (h : ∀ D H', Ex H H' → H D = none → H' D = some (.lst ((pcs s).map V.str)) → Q (.ref D) H') : SP K (n+1) "_law_cut" [.str s] H Q E := by
  refine o__law_cut ?_
  unfold r__law_cut
  simp only [tRet]
  exact cut_lc (W := fun _ _ _ _ => False) hs h
end
end WR.L

set_option Elab.async false
set_option linter.all false
set_option maxRecDepth 100000
set_option maxHeartbeats 4000000
namespace WR.L
open PySem PySem.Spec PyProof.Rows L2
section
variable {K : PySem.W.Frag} {n : Nat} {H H' : Hp} {Q : VK} {E : XK} {v : V} {N : Nat} {m : String}
/-- a comprehension whose items f tells -/
theorem lc_J {J : It} {xs : List V} {f : V → V} {i : Nat} {σ : L2.St} {te : TE} (hx : xs.length ≤ 900) (go : ∀ k H1, k < xs.length → Ex H H1 → J.go k H1) (yld : ∀ k H1 x H2, k < xs.length → Ex H H1 → J.yld k H1 x H2 → H2 = H1 ∧ xs[k]? = some x) (stop : ∀ H1, Ex H H1 → J.stop xs.length H1)
    (hf : ∀ x H1 (R : VK), x ∈ xs → Ex H H1 → (∀ H2, Ex H1 H2 → R (f x) H2) → te (σ.set i (some x)) H1 R)
    (h : ∀ D H', Ex H H' → H D = none → H' D = some (.lst (xs.map f)) → Q (.ref D) H') (hw : ∀ v, wipe (σ.set i (some v)) [i] = wipe σ [i]) (hw2 : wipe σ [i] = σ) {D : Addr} (hD : H D = none) :
    ∃ n, lpc J (gName i) tYes te [i] σ D Q n 0 (upd H D (.lst [])) := by
  refine lpc_inv (n := xs.length) (fun j H' => Ex H H' ∧ H' D = some (.lst ((xs.take j).map f))) ?_ ?_ ⟨Ex.refl.new hD, by rw [upd_same]; rfl⟩
  · rintro H1 ⟨e1, k1⟩
    refine ⟨stop _ e1, h D H1 e1 hD ?_⟩
    rw [k1, List.take_of_length_le (Nat.le_refl _)]
  · rintro j H1 hj ⟨e1, k1⟩ R hR
    refine ⟨go j H1 hj e1, ?_⟩
    intro x H2 hy
    obtain ⟨rfl, hx2⟩ := yld j H1 x H2 hj e1 hy
    rw [hw2]
    refine ⟨(hw _).trans hw2, yes_ ?_⟩
    refine hf x _ _ (List.mem_of_getElem? hx2) e1 fun H3 e3 => ?_
    refine ⟨_, e3 _ _ k1, by rw [List.length_map, List.length_take]; exact small1000 (by omega), hR _ ⟨(e1.trans e3).new hD, ?_⟩⟩
    rw [upd_same, List.take_add_one, hx2, List.map_append]
    rfl
theorem lc_lst {l : Addr} {xs : List V} {f : V → V} {i : Nat} {σ : L2.St} {te : TE} (hl : H l = some (.lst xs)) (hx : xs.length ≤ 900)
    (hf : ∀ x H1 (R : VK), x ∈ xs → Ex H H1 → (∀ H2, Ex H1 H2 → R (f x) H2) → te (σ.set i (some x)) H1 R)
    (h : ∀ D H', Ex H H' → H D = none → H' D = some (.lst (xs.map f)) → Q (.ref D) H') (hw : ∀ v, wipe (σ.set i (some v)) [i] = wipe σ [i]) (hw2 : wipe σ [i] = σ) {D : Addr} (hD : H D = none) :
    ∃ n, lpc (Itl K l) (gName i) tYes te [i] σ D Q n 0 (upd H D (.lst [])) :=
  lc_J (J := Itl K l) hx (fun k H1 hk e => itl_go (e _ _ hl) hk) (fun k H1 x H2 _ e hy => itl_yld (e _ _ hl) hy) (fun H1 e => itl_stop (e _ _ hl) (Nat.le_refl _)) hf h hw hw2 hD
theorem lc_tup {l : Addr} {xs : List V} {f : V → V} {i : Nat} {σ : L2.St} {te : TE} (hl : H l = some (.tup xs)) (hx : xs.length ≤ 900)
    (hf : ∀ x H1 (R : VK), x ∈ xs → Ex H H1 → (∀ H2, Ex H1 H2 → R (f x) H2) → te (σ.set i (some x)) H1 R)
    (h : ∀ D H', Ex H H' → H D = none → H' D = some (.lst (xs.map f)) → Q (.ref D) H') (hw : ∀ v, wipe (σ.set i (some v)) [i] = wipe σ [i]) (hw2 : wipe σ [i] = σ) {D : Addr} (hD : H D = none) :
    ∃ n, lpc (Itt K l) (gName i) tYes te [i] σ D Q n 0 (upd H D (.lst [])) :=
  lc_J (J := Itt K l) hx (fun k H1 hk e => ⟨xs, xs[k], .inl (.inl (e _ _ hl)), by simp [hk]⟩) (fun k H1 x H2 _ e hy => ⟨hy.1, hy.2 xs (.inl (.inl (e _ _ hl)))⟩) (fun H1 e => ⟨xs, .inl (.inl (e _ _ hl)), Nat.le_refl _⟩) hf h hw hw2 hD
/-! ## marks -/
def mkV : V → Bool
  | .int i => decide (0 ≤ i) && (decide (i ≤ 64250) && decide (i % 256 < 251))
  | _ => false
/-- a part of a card: of a known kind -/
def Cm (H : Hp) (v : V) : Prop := ∃ m, Kd H v m ∧ (okSc v ∨ m ≠ "str")
theorem Cm.ex (x : Ex H H') (h : Cm H v) : Cm H' v := by
  obtain ⟨m, k, c⟩ := h
  exact ⟨m, k.ex x, c⟩
theorem Tre.cm {k : Nat} (h : Tre H k v) : Cm H v := by
  cases h with
  | sc h => obtain ⟨m, k⟩ := sc_kd (H := H) h; exact ⟨m, k, .inl h⟩
  | tup h => exact ⟨_, .tup h, .inr (by decide)⟩
theorem mkV_no (k : Kd H v m) (hm : m ≠ "int") : mkV v = false := by
  cases k with
  | int i => exact absurd rfl hm
  | _ => rfl
theorem s_is_mark (k : Kd H v m) (h : Q (.bl (mkV v)) H) : SP K (n+2) "is_mark" [v] H Q E := by
  refine o_is_mark ?_
  unfold r_is_mark
  simp only [tRet, cAnd, cCall, tCons, tNil, tOp, tC, cVar, oMul, List.getElem?_cons_zero]
  refine ⟨cmul_of (by decide) (by decide), rfl, (by first | rfl | trivial), s_is_whole (n := n) (hi := 256 * 251) k ?_⟩
  by_cases hm : m = "int"
  · obtain ⟨i, rfl⟩ := k.int_of hm
    have e : wholeV 0 (256 * 251) (V.int i) = (decide (0 ≤ i) && decide (i ≤ 64256)) := rfl
    rw [e]
    have em : mkV (V.int i) = (decide (0 ≤ i) && (decide (i ≤ 64250) && decide (i % 256 < 251))) := rfl
    rw [em] at h
    by_cases a : 0 ≤ i ∧ i ≤ 64256
    · rw [decide_eq_true a.1, decide_eq_true a.2]
      simp only [Bool.true_and, oTru, oFdiv, oLtK]
      refine ⟨cdiv_of (by decide) (by decide), ?_⟩
      rw [decide_eq_true a.1, Bool.true_and] at h
      by_cases b : i / 256 < 251
      · simp only [b, decide_true, oMod]
        refine ⟨by decide, ?_⟩
        by_cases c : i % 256 < 251
        · rw [decide_eq_true c] at h ⊢
          rw [decide_eq_true (show i ≤ 64250 from by omega)] at h
          exact h
        · rw [decide_eq_false c] at h ⊢
          rw [Bool.and_false] at h
          exact h
      · simp only [b, decide_false]
        rw [decide_eq_false (show ¬ i ≤ 64250 from by omega), Bool.false_and] at h
        exact h
    · have e1 : (decide (0 ≤ i) && decide (i ≤ 64256)) = false := by
        by_cases z : 0 ≤ i
        · rw [decide_eq_false (show ¬ i ≤ 64256 from fun w => a ⟨z, w⟩), Bool.and_false]
        · rw [decide_eq_false z, Bool.false_and]
      have e2 : (decide (0 ≤ i) && (decide (i ≤ 64250) && decide (i % 256 < 251))) = false := by
        by_cases z : 0 ≤ i
        · rw [decide_eq_false (show ¬ i ≤ 64250 from fun w => a ⟨z, by omega⟩), Bool.false_and, Bool.and_false]
        · rw [decide_eq_false z, Bool.false_and]
      rw [e1]
      rw [e2] at h
      simp only [oTru]
      exact h
  · rw [wholeV_no k hm]
    rw [mkV_no k hm] at h
    simp only [oTru]
    exact h
/-- a card -/
def Crd (H : Hp) (v : V) : Prop := ∃ p k n b mv, v = .ref p ∧ H p = some (.tup [k, n, b, mv]) ∧ nmV k = true ∧ wholeV 1 999999 n = true ∧ nmV b = true ∧ (mv = .non ∨ ∃ q ms, mv = .ref q ∧ H q = some (.tup ms) ∧ ms.length ≤ 8 ∧ ms.all mkV = true)
/-- what may be looked at -/
def Lk (H : Hp) (v : V) : Prop := (∃ m, Kd H v m) ∧ ∀ p vs, v = .ref p → H p = some (.tup vs) → vs.length ≤ 20 ∧ ∀ x ∈ vs, Cm H x ∧ ∀ q ms, x = .ref q → H q = some (.tup ms) → ms.length ≤ 20 ∧ ∀ z ∈ ms, Cm H z
theorem Tre.lk1 {k : Nat} (h : Tre H k v) : ∀ q ms, v = .ref q → H q = some (.tup ms) → ms.length ≤ 20 ∧ ∀ z ∈ ms, Cm H z := by
  intro q ms e hq
  cases h with
  | sc h => subst e; exact h.elim
  | tup h hl ha =>
    cases e
    rw [h] at hq
    cases hq
    exact ⟨hl, fun z hz => (ha z hz).cm⟩
theorem Tre.lk {k : Nat} (h : Tre H k v) : Lk H v := by
  refine ⟨h.kd, fun q ms e hq => ?_⟩
  cases h with
  | sc h => subst e; exact h.elim
  | tup h hl ha =>
    cases e
    rw [h] at hq
    cases hq
    exact ⟨hl, fun z hz => ⟨(ha z hz).cm, (ha z hz).lk1⟩⟩
theorem Th.lk (h : Th H N v) : Lk H v := by
  cases h with
  | tt h => exact h.lk
  | lst h => exact ⟨⟨_, .lst h⟩, fun q ms e hq => by cases e; rw [h] at hq; cases hq⟩
  | dic h => exact ⟨⟨_, .dK h⟩, fun q ms e hq => by cases e; rw [h] at hq; cases hq⟩
  | mix h hl ha =>
    refine ⟨⟨_, .tup h⟩, fun q ms e hq => ?_⟩
    cases e
    rw [h] at hq
    cases hq
    refine ⟨hl, fun x hx => ?_⟩
    rcases ha x hx with t | ⟨q, xs, rfl, hq, hxs, hz⟩
    · exact ⟨t.cm, t.lk1⟩
    · exact ⟨⟨_, .lst hq, .inr (by decide)⟩, fun q' ms e2 hq2 => by cases e2; rw [hq] at hq2; cases hq2⟩
theorem Lk.ex (x : Ex H H') (h : Lk H v) (hc : ∀ p, v = .ref p → ∃ o, H p = some o) : (∃ m, Kd H' v m) := by
  obtain ⟨⟨m, k⟩, _⟩ := h
  exact ⟨m, k.ex x⟩
end
end WR.L

set_option Elab.async false
set_option linter.all false
set_option maxRecDepth 100000
set_option maxHeartbeats 4000000
namespace WR.L
open PySem PySem.Spec PyProof.Rows L2
section
variable {K : PySem.W.Frag} {n : Nat} {H H' : Hp} {Q : VK} {E : XK} {v : V} {N : Nat} {m : String}
theorem Kd.tup_of (k : Kd H v m) (e : m = "tuple") : ∃ p vs, v = .ref p ∧ H p = some (.tup vs) := by
  cases k <;> first | exact ⟨_, _, rfl, by assumption⟩ | exact absurd e (by decide)
theorem tup4_ {t : Addr} {i j k l : Nat} {x y z w : V} {σ : L2.St} {R : L2.St → Hp → Prop} (h : look K H t = some (.tup [x, y, z, w])) (q : R ((((σ.set i (some x)).set j (some y)).set k (some z)).set l (some w)) H) : cTupG K 4 (gCons (gName i) (gCons (gName j) (gCons (gName k) (gCons (gName l) gNil)))) (.ref t) σ H R := by
  simp only [cTupG, h, gCons, gName, gNil]
  exact ⟨rfl, _, _, rfl, _, _, rfl, _, _, rfl, _, _, rfl, rfl, q⟩
theorem crd_iff {p : Addr} {a b c d : V} (h : H p = some (.tup [a, b, c, d])) : Crd H (.ref p) ↔ nmV a = true ∧ wholeV 1 999999 b = true ∧ nmV c = true ∧ (d = .non ∨ ∃ q ms, d = .ref q ∧ H q = some (.tup ms) ∧ ms.length ≤ 8 ∧ ms.all mkV = true) := by
  constructor
  · rintro ⟨p', k, n, b', mv, e, h2, r⟩
    cases e
    rw [h] at h2
    cases h2
    exact r
  · exact fun r => ⟨p, a, b, c, d, rfl, h, r⟩
theorem crd_no4 {p : Addr} {vs : List V} (h : H p = some (.tup vs)) (hl : vs.length ≠ 4) : ¬ Crd H (.ref p) := by
  rintro ⟨p', k, n, b', mv, e, h2, r⟩
  cases e
  rw [h] at h2
  cases h2
  exact hl rfl
theorem crd_no (k : Kd H v m) (hm : m ≠ "tuple") : ¬ Crd H v := by
  rintro ⟨p', k', n, b', mv, rfl, h2, r⟩
  cases k with
  | tup h => exact hm rfl
  | lst h => rw [h] at h2; cases h2
  | dK h => rw [h] at h2; cases h2
theorem ws4' {ws : List V} (h : ws.length = 4) : ∃ a b c d, ws = [a, b, c, d] := by
  match ws, h with
  | [a, b, c, d], _ => exact ⟨a, b, c, d, rfl⟩
theorem dec_int {a : Nat} {b : Int} {q : Bool} (h : ((a : Int) = b ↔ q = true)) : decide (V.int (a : Int) = V.int b) = q := by
  cases q with
  | true => exact decide_eq_true (by rw [h.mpr rfl])
  | false => exact decide_eq_false fun z => by have := h.mp (V.int.inj z); cases this
theorem if_bl {A B : Prop} {b c : Bool} (e : b = c) (h : if c = true then A else B) : if b = true then A else B := by
  subst e; exact h
theorem s_is_card (l : Lk H v) (h : ∀ H' b, Ex H H' → (b = true ↔ Crd H v) → Q (.bl b) H') : SP K (n+3) "is_card" [v] H Q E := by
  obtain ⟨⟨m, k⟩, lk⟩ := l
  refine o_is_card ?_
  unfold r_is_card
  refine seq_ fun N1 h1 => ifS_ fun A B hA hB => ?_
  simp only [tOr, tNot, cTru, cTest, tCB, tCons, tNil, tC, tOp, cVar, List.getElem?_cons_zero]
  refine isi_k k (by decide) ?_
  by_cases hm : m = "tuple"
  · subst hm
    obtain ⟨p, vs, rfl, hp⟩ := k.tup_of rfl
    obtain ⟨hl, lx⟩ := lk p vs rfl hp
    simp only [show isK "tuple" "tuple" = true from rfl, oTru, Bool.not_true, Bool.false_eq_true, if_false]
    rw [len_tup rfl (look_of_tup hp)]
    refine ne_scal rfl rfl rfl ?_
    by_cases h4 : vs.length = 4
    · obtain ⟨a, b, c, d, rfl⟩ := ws4' h4
      refine if_bl (c := false) rfl ?_
      simp only [Bool.false_eq_true, if_false]
      refine hB _ ?_
      simp only [tNext]
      refine h1 _ _ (seq_ fun N2 h2 => ?_)
      simp only [tAsg, cVar, List.getElem?_cons_zero]
      refine tup4_ (look_of_tup hp) (h2 _ _ (seq_ fun N3 h3 => ifS_ fun A2 B2 hA2 hB2 => ?_))
      obtain ⟨⟨ma, ka, sa⟩, _⟩ := lx a (by simp)
      obtain ⟨⟨mb, kb, sb⟩, _⟩ := lx b (by simp)
      obtain ⟨⟨mc, kc, sc⟩, _⟩ := lx c (by simp)
      obtain ⟨⟨md, kd, sd⟩, ld⟩ := lx d (by simp)
      have ci := crd_iff hp
      simp only [tOr, tNot, cTru, cTest, cCall, tCons, tNil, tC, cVar, List.set_cons_zero, List.set_cons_succ, List.getElem?_cons_zero, List.getElem?_cons_succ]
      refine ⟨rfl, (by first | rfl | trivial), s_is_name (n := n + 1) ka sa fun H1 e1 => ?_⟩
      have stop : ∀ H', Ex H H' → ¬ Crd H (.ref p) → A2 H' := fun H' e' nc => hA2 _ (by
        simp only [tRet, tC]
        exact h H' false e' ⟨fun z => (by cases z), fun z => absurd z nc⟩)
      cases ea : nmV a with
      | false =>
        simp only [oTru, Bool.not_false, if_true]
        exact stop _ e1 fun z => by rw [(ci.mp z).1] at ea; cases ea
      | true =>
        simp only [oTru, Bool.not_true, Bool.false_eq_true, if_false]
        refine ⟨rfl, (by first | rfl | trivial), s_is_whole (n := n + 1) (kb.ex e1) ?_⟩
        cases eb : wholeV 1 999999 b with
        | false =>
          simp only [oTru, Bool.not_false, if_true]
          exact stop _ e1 fun z => by rw [(ci.mp z).2.1] at eb; cases eb
        | true =>
          simp only [oTru, Bool.not_true, Bool.false_eq_true, if_false]
          refine ⟨rfl, (by first | rfl | trivial), s_is_name (n := n + 1) (kc.ex e1) sc fun H2 e2 => ?_⟩
          have x2 := e1.trans e2
          cases ec : nmV c with
          | false =>
            simp only [oTru, Bool.not_false, if_true]
            exact stop _ x2 fun z => by rw [(ci.mp z).2.2.1] at ec; cases ec
          | true =>
            simp only [oTru, Bool.not_true, Bool.false_eq_true, if_false]
            refine hB2 _ ?_
            simp only [tNext]
            refine h3 _ _ (seq_ fun N4 h4 => ifS_ fun A3 B3 hA3 hB3 => ?_)
            simp only [cTest, tOp, tC, cVar, oIs, List.set_cons_zero, List.set_cons_succ, List.getElem?_cons_zero, List.getElem?_cons_succ]
            by_cases dn : d = .non
            · rw [decide_eq_true dn]
              simp only [if_true]
              refine hA3 _ ?_
              simp only [tRet, tC]
              exact h _ true x2 ⟨fun _ => ci.mpr ⟨ea, eb, ec, .inl dn⟩, fun _ => rfl⟩
            · rw [decide_eq_false dn]
              simp only [Bool.false_eq_true, if_false]
              refine hB3 _ ?_
              simp only [tNext]
              refine h4 _ _ ?_
              simp only [tRet, cAnd, tCB, tCons, tNil, tC, tOp, cVar, List.set_cons_zero, List.set_cons_succ, List.getElem?_cons_zero, List.getElem?_cons_succ]
              refine isi_k (kd.ex x2) (by decide) ?_
              by_cases hmd : md = "tuple"
              · subst hmd
                obtain ⟨q, ms, rfl, hq⟩ := kd.tup_of rfl
                obtain ⟨hml, lz⟩ := ld q ms rfl hq
                simp only [show isK "tuple" "tuple" = true from rfl, oTru]
                rw [len_tup rfl (look_of_tup (x2 _ _ hq))]
                simp only [oLe]
                by_cases h8 : ms.length ≤ 8
                · rw [decide_eq_true (show ((ms.length : Nat) : Int) ≤ 8 from by omega)]
                  simp only []
                  refine .inl ?_
                  simp only [cLc, cIter, frzE, cVar, List.set_cons_zero, List.set_cons_succ, List.getElem?_cons_zero, List.getElem?_cons_succ, x2 _ _ hq, look_of_tup (K := K) (x2 _ _ hq)]
                  intro D hD
                  refine lc_tup (f := fun z => V.bl (mkV z)) (x2 _ _ hq) (by omega) (fun z H3 R hz e3 q3 => ?_) (fun D H3 e3 _ hD3 => ?_) (fun v => rfl) rfl hD
                  · obtain ⟨mz, kz, _⟩ := lz z hz
                    simp only [cCall, tCons, tNil, cVar, List.set_cons_zero, List.set_cons_succ, List.getElem?_cons_zero, List.getElem?_cons_succ]
                    exact ⟨rfl, (by first | rfl | trivial), s_is_mark (n := n) (kz.ex (x2.trans e3)) (q3 _ Ex.refl)⟩
                  · refine all_bl hD3 ?_
                    refine h _ _ (x2.trans e3) ?_
                    rw [ci]
                    constructor
                    · exact fun z => ⟨ea, eb, ec, .inr ⟨q, ms, rfl, hq, h8, z⟩⟩
                    · rintro ⟨_, _, _, z | ⟨q', ms', z1, z2, z3, z4⟩⟩
                      · cases z
                      · cases z1
                        rw [hq] at z2
                        cases z2
                        exact z4
                · rw [decide_eq_false (show ¬ ((ms.length : Nat) : Int) ≤ 8 from by omega)]
                  refine h _ false x2 ⟨fun z => (by cases z), fun z => ?_⟩
                  rcases (ci.mp z).2.2.2 with z | ⟨q', ms', z1, z2, z3, z4⟩
                  · cases z
                  · cases z1
                    rw [hq] at z2
                    cases z2
                    exact absurd z3 h8
              · rw [isK_no (m := md) (T := "tuple") hmd fun _ => by decide]
                simp only [oTru]
                refine h _ false x2 ⟨fun z => (by cases z), fun z => ?_⟩
                rcases (ci.mp z).2.2.2 with z | ⟨q', ms', z1, z2, z3, z4⟩
                · exact absurd z dn
                · subst z1
                  cases kd with
                  | tup _ => exact absurd rfl hmd
                  | lst hh => rw [hh] at z2; cases z2
                  | dK hh => rw [hh] at z2; cases z2
    · rw [show decide (V.int (vs.length : Int) = V.int 4) = false from decide_eq_false fun z => h4 (by have := V.int.inj z; omega)]
      simp only [Bool.not_false, if_true]
      refine hA _ ?_
      simp only [tRet, tC]
      exact h H false Ex.refl ⟨fun z => (by cases z), fun z => absurd z (crd_no4 hp h4)⟩
  · rw [isK_no (m := m) (T := "tuple") hm fun _ => by decide]
    simp only [oTru, Bool.not_false, if_true]
    refine hA _ ?_
    simp only [tRet, tC]
    exact h H false Ex.refl ⟨fun z => (by cases z), fun z => absurd z (crd_no k hm)⟩
end
end WR.L

set_option Elab.async false
set_option linter.all false
set_option maxRecDepth 100000
set_option maxHeartbeats 4000000
namespace WR.L
open PySem PySem.Spec PyProof.Rows L2
/-- a refusal -/
def Rf (K : PySem.W.Frag) (H : Hp) (C : Str) (v : V) (E : XK) : Prop := ∀ x H', Ex H H' → H' x = some (.xd [("found", v)]) → E (.ref (He.ga K C)) (some x) H'
def LET : Str := "abcdefghijklmnopqrstuvwxyz"
theorem isNm_lets {s : Str} (h : isNm s = true) : ∀ c ∈ s.cps.toList, c ∈ lets := fun c hc => by
  unfold isNm at h
  simp only [Bool.and_eq_true, List.all_eq_true, decide_eq_true_eq] at h
  exact h.2.2 c hc
theorem lets_small : ∀ c ∈ lets, c < 128 := by decide +kernel
theorem isNm_sc {s : Str} (h : isNm s = true) : okSc (.str s) := by
  refine ⟨?_, fun c hc => lets_small c (isNm_lets h c hc)⟩
  unfold isNm at h
  simp only [Bool.and_eq_true, decide_eq_true_eq] at h
  omega
theorem nmV_str {H : Hp} {v : V} (h : nmV v = true) : ∃ s, v = .str s ∧ isNm s = true := by
  cases v with
  | str s => exact ⟨s, rfl, h⟩
  | _ => cases h
theorem txV_str {v : V} (h : txV v = true) : ∃ s, v = .str s ∧ okTx s = true := by
  cases v with
  | str s => exact ⟨s, rfl, h⟩
  | _ => cases h
theorem whole_int {lo hi : Int} {v : V} (h : wholeV lo hi v = true) : ∃ i, v = .int i ∧ lo ≤ i ∧ i ≤ hi := by
  cases v with
  | int i =>
    have h : (decide (lo ≤ i) && decide (i ≤ hi)) = true := h
    simp only [Bool.and_eq_true, decide_eq_true_eq] at h
    exact ⟨i, rfl, h.1, h.2⟩
  | _ => cases h
theorem txC_small {c : Nat} (h : txC c = true) : c < 128 := by
  unfold txC at h
  simp only [Bool.and_eq_true, Bool.not_eq_true', decide_eq_false_iff_not] at h
  omega
theorem okTx_sc {s : Str} (h : okTx s = true) : okSc (.str s) := by
  unfold okTx at h
  simp only [Bool.and_eq_true, decide_eq_true_eq, List.all_eq_true] at h
  exact ⟨by omega, fun c hc => txC_small (h.2 c hc)⟩
theorem pcs_ok {s p : Str} (h : okTx s = true) (hp : p ∈ pcs s) : okTx p = true := by
  unfold pcs at hp
  obtain ⟨i, _, rfl⟩ := List.mem_map.mp hp
  unfold okTx at h ⊢
  simp only [Bool.and_eq_true, decide_eq_true_eq, List.all_eq_true] at h ⊢
  have sub : ∀ c ∈ (cutS s (some ((0 : Int) + (i : Nat) * 8)) (some ((0 : Int) + (i : Nat) * 8 + 8))).cps.toList, c ∈ s.cps.toList := fun c hc => by
    unfold cutS at hc
    simp only [List.toList_toArray] at hc
    exact List.mem_of_mem_drop (List.mem_of_mem_take hc)
  refine ⟨?_, fun c hc => h.2 c (sub c hc)⟩
  have := cutS_length s (some ((0 : Int) + (i : Nat) * 8)) (some ((0 : Int) + (i : Nat) * 8 + 8))
  omega
theorem pcs_len {s : Str} (h : okTx s = true) : (pcs s).length ≤ 8 := by
  unfold okTx at h
  simp only [Bool.and_eq_true, decide_eq_true_eq] at h
  simp only [pcs, List.length_map, List.length_range]
  omega
/-- the marks of a text -/
def mks (s : Str) : List Int := (pcs s).map markF
section
variable {K : PySem.W.Frag} {n : Nat} {H H' : Hp} {Q : VK} {E : XK} {v : V} {N : Nat} {m : String}
end
end WR.L

set_option Elab.async false
set_option linter.all false
set_option maxRecDepth 100000
set_option maxHeartbeats 4000000
namespace WR.L
open PySem PySem.Spec PyProof.Rows L2
section
variable {K : PySem.W.Frag} {n : Nat} {H H' : Hp} {Q : VK} {E : XK} {v : V} {N : Nat} {m : String}
def mkOf : V → V
  | .str p => .int (markF p)
  | v => v
theorem map_mkOf (s : Str) : ((pcs s).map V.str).map mkOf = (mks s).map V.int := by
  unfold mks
  rw [List.map_map, List.map_map]
  rfl
/-- what is told of a sense -/
def MkV (H : Hp) (s mv : V) : Prop := (s = .non ∧ mv = .non) ∨ ∃ t q, s = .str t ∧ mv = .ref q ∧ H q = some (.tup ((mks t).map V.int))
theorem MkV.tp {s mv : V} (x : Tp H H') (h : MkV H s mv) : MkV H' s mv := h.imp id fun ⟨t, q, a, b, c⟩ => ⟨t, q, a, b, x _ _ c⟩
theorem s__law_marks (hs : v = .non ∨ ∃ t : Str, v = .str t ∧ t.length ≤ 100) (h : ∀ mv H', Ex H H' → MkV H' v mv → Q mv H') : SP K (n+3) "_law_marks" [v] H Q E := by
  refine o__law_marks ?_
  unfold r__law_marks
  simp only [tRet, tIf, cTest, tOp, oIs, tC, cVar, List.getElem?_cons_zero]
  rcases hs with rfl | ⟨t, rfl, hl⟩
  · simp only [decide_true, if_true]
    exact h _ _ Ex.refl (.inl ⟨rfl, rfl⟩)
  · refine if_bl (c := false) rfl ?_
    simp only [Bool.false_eq_true, if_false]
    simp only [tCB, tCons, tNil]
    refine .inl ?_
    simp only [cLc, cIter, frzE, cCall, tCons, tNil, cVar, List.getElem?_cons_zero]
    refine ⟨rfl, (by first | rfl | trivial), s__law_cut (n := n + 1) hl fun D H1 e1 hD k1 => ?_⟩
    simp only [k1, look_of_lst (K := K) k1]
    intro D2 hD2
    have pl : ((pcs t).map V.str).length ≤ 900 := by simp [pcs]; omega
    refine lc_lst (f := mkOf) k1 pl (fun x H2 R hx e2 q => ?_) (fun D3 H2 e2 hD3 k2 => ?_) (fun v => rfl) rfl hD2
    · obtain ⟨p, hp, rfl⟩ := List.mem_map.mp hx
      simp only [cCall, tCons, tNil, cVar, List.set_cons_zero, List.set_cons_succ, List.getElem?_cons_zero, List.getElem?_cons_succ]
      exact ⟨rfl, (by first | rfl | trivial), s__law_mark (n := n) fun H3 e3 => q _ e3⟩
    · simp only [bTuple, look_of_lst (K := K) k2]
      intro l hl'
      refine h _ _ ((e1.trans e2).trans (Ex.refl.new hl')) (.inr ⟨t, l, rfl, rfl, ?_⟩)
      rw [upd_same, map_mkOf]
end
end WR.L

set_option Elab.async false
set_option linter.all false
set_option maxRecDepth 100000
set_option maxHeartbeats 4000000
namespace WR.L
open PySem PySem.Spec PyProof.Rows L2
section
variable {K : PySem.W.Frag} {n : Nat} {H H' : Hp} {Q : VK} {E : XK} {v : V} {N : Nat} {m : String}
theorem s_need_card (l : Lk H v) (g : Crd H v → ∀ H', Ex H H' → Q .non H') (b : ¬ Crd H v → Rf K H "NoCard" v E) : SP K (n+4) "need_card" [v] H Q E := by
  refine o_need_card ?_
  unfold r_need_card
  refine ifS_ fun A B hA hB => ?_
  simp only [tNot, cTru, cCall, tCons, tNil, cVar, List.getElem?_cons_zero]
  refine ⟨rfl, (by first | rfl | trivial), s_is_card (n := n) l fun H1 b' e1 hb => ?_⟩
  cases b' with
  | true =>
    simp only [oTru, Bool.not_true, Bool.false_eq_true, if_false]
    refine hB _ ?_
    simp only [tNext]
    exact g (hb.mp rfl) _ e1
  | false =>
    simp only [oTru, Bool.not_false, if_true]
    refine hA _ ?_
    simp only [tRs, tMkX, cVar, List.getElem?_cons_zero]
    exact fun x hx => b (fun z => by cases hb.mpr z) x _ (e1.trans (Ex.refl.new hx)) upd_same
theorem lc_rng {k : Nat} {f : V → V} {i : Nat} {σ : L2.St} {te : TE} (hk : k ≤ 900)
    (hf : ∀ (j : Nat) H1 (R : VK), j < k → Ex H H1 → (∀ H2, Ex H1 H2 → R (f (.int (j : Nat))) H2) → te (σ.set i (some (.int (j : Nat)))) H1 R)
    (h : ∀ D H', Ex H H' → H D = none → H' D = some (.lst ((List.range k).map fun (j : Nat) => f (.int (j : Nat)))) → Q (.ref D) H') (hw : ∀ v, wipe (σ.set i (some v)) [i] = wipe σ [i]) (hw2 : wipe σ [i] = σ) {D : Addr} (hD : H D = none) :
    ∃ n, lpc (Itr 0 k) (gName i) tYes te [i] σ D Q n 0 (upd H D (.lst [])) := by
  have hl : ((List.range k).map fun (j : Nat) => V.int (j : Nat)).length = k := by simp
  refine lc_J (J := Itr 0 k) (xs := (List.range k).map fun (j : Nat) => V.int (j : Nat)) (f := f) (by rw [hl]; exact hk) (fun j H1 hj _ => by rw [hl] at hj; exact hj) (fun j H1 x H2 hj _ hy => ?_) (fun H1 _ => by rw [hl]; exact Nat.le_refl _) (fun x H1 R hx e q => ?_) (fun D H' e hD' k1 => ?_) hw hw2 hD
  · obtain ⟨rfl, rfl⟩ := itr_yld hy
    refine ⟨rfl, ?_⟩
    rw [hl] at hj
    rw [List.getElem?_map, List.getElem?_range hj]
    show some (V.int (j : Nat)) = some (V.int (0 + (j : Nat)))
    rw [Int.zero_add]
  · obtain ⟨j, hj, rfl⟩ := List.mem_map.mp hx
    exact hf j H1 R (List.mem_range.mp hj) e q
  · rw [List.map_map] at k1
    exact h D H' e hD' k1
end
end WR.L

set_option Elab.async false
set_option linter.all false
set_option maxRecDepth 100000
set_option maxHeartbeats 4000000
namespace WR.L
open PySem PySem.Spec PyProof.Rows L2
section
variable {K : PySem.W.Frag} {n : Nat} {H H' : Hp} {Q : VK} {E : XK} {v w : V} {N : Nat} {m : String}
theorem cons_ {t : TE} {ts : TA} {σ : L2.St} {R : List V → Hp → Prop} (h : t σ H fun x H1 => ts σ H1 fun xs H2 => R (x :: xs) H2) : tCons t ts σ H R := h
theorem mCB_blt {m : Str} {k : Nat} {ta : TE} {t : TA} {W : WX} {σ : L2.St}
    (h : ta σ H fun x H1 => insOf H1 x = none ∧ ∃ T, tyB K H1 x = some T ∧ ∃ b, (bf K m).find? (fun b => b.T == T) = some b ∧ t σ H1 fun vs H2 => b.r x vs H2 Q)
    (mono : ∀ P P' : V → Hp → Prop, (∀ x H, P x H → P' x H) → ta σ H P → ta σ H P') : mCB K m k ta t W σ H Q := by
  unfold mCB cMeth
  refine mono _ _ (fun x H1 q => ?_) h
  obtain ⟨h1, T, h2, b, h3, q⟩ := q
  simp only [h1, h2, h3, true_and]
  exact q
/-- a thing has grown behind a refusal -/
def GwC (v : V) (H H' : Hp) : Prop := (∃ p vs, v = .ref p ∧ H p = some (.lst vs) ∧ H' = upd H p (.lst (vs ++ [.int 7]))) ∨ (∃ p kvs, v = .ref p ∧ H p = some (.dK kvs) ∧ H' = upd H p (.dK (putK kvs (.inr "more") (.int 7)))) ∨ (H' = H ∧ ∀ p, v = .ref p → (∀ vs, H p ≠ some (.lst vs)) ∧ ∀ kvs, H p ≠ some (.dK kvs))
/-- all but what is at v stays, tuples too -/
def Gw (v : V) (H H' : Hp) : Prop := (∀ b o, v ≠ .ref b → H b = some o → H' b = some o) ∧ Tp H H'
theorem Gw.refl : Gw v H H := ⟨fun _ _ _ e => e, fun _ _ e => e⟩
theorem Gw.ex (x : Ex H H') : Gw v H H' := ⟨fun _ _ _ e => x _ _ e, x.tp⟩
theorem Gw.trans {H1 : Hp} (a : Gw v H H1) (b : Gw v H1 H') : Gw v H H' := ⟨fun c o n e => b.1 c o n (a.1 c o n e), fun t xs e => b.2 t xs (a.2 t xs e)⟩
theorem GwC.gw (h : GwC v H H') : Gw v H H' := by
  rcases h with ⟨p, vs, rfl, hp, rfl⟩ | ⟨p, kvs, rfl, hp, rfl⟩ | ⟨rfl, _⟩
  · exact ⟨fun b o nb e => by rw [upd_ne fun z => nb (by rw [z])]; exact e, fun t xs e => by rw [upd_ne fun z => by rw [z, hp] at e; cases e]; exact e⟩
  · exact ⟨fun b o nb e => by rw [upd_ne fun z => nb (by rw [z])]; exact e, fun t xs e => by rw [upd_ne fun z => by rw [z, hp] at e; cases e]; exact e⟩
  · exact Gw.refl
theorem sc7 : okSc (.int 7) := by show (7 : Int).natAbs < 10 ^ 40; decide
theorem more_ok : okKv ((.inr "more" : Key), V.int 7) := ⟨⟨_, rfl, by decide, by unfold As; decide +kernel⟩, sc7⟩
theorem put_ok {kvs : List (Key × V)} (h : ∀ kv ∈ kvs, okKv kv) : ∀ kv ∈ putK kvs (.inr "more") (.int 7), okKv kv := by
  intro kv hkv
  unfold putK at hkv
  split at hkv
  · obtain ⟨q, hq, rfl⟩ := List.mem_map.mp hkv
    split
    · rename_i e; rw [show q.1 = (.inr "more" : Key) from e]; exact more_ok
    · exact h q hq
  · rcases List.mem_append.mp hkv with hq | hq
    · exact h kv hq
    · rw [List.mem_singleton] at hq; subst hq; exact more_ok
theorem put_len {kvs : List (Key × V)} : (putK kvs (.inr "more") (.int 7)).length ≤ kvs.length + 1 := by
  unfold putK
  split
  · simp
  · simp
theorem GwC.th (g : GwC v H H') (h : Th H N v) : Th H' (N + 1) v := by
  have tp := g.gw.2
  rcases g with ⟨p, vs, rfl, hp, rfl⟩ | ⟨p, kvs, rfl, hp, rfl⟩ | ⟨rfl, _⟩
  · cases h with
    | tt h =>
      cases h with
      | sc h => exact h.elim
      | tup h => rw [hp] at h; cases h
    | lst h hl ha =>
      rw [hp] at h; cases h
      refine .lst upd_same (by simp; omega) fun x hx => ?_
      rcases List.mem_append.mp hx with hx | hx
      · exact (ha x hx).tp tp
      · rw [List.mem_singleton] at hx; subst hx; exact .sc sc7
    | dic h => rw [hp] at h; cases h
    | mix h => rw [hp] at h; cases h
  · cases h with
    | tt h =>
      cases h with
      | sc h => exact h.elim
      | tup h => rw [hp] at h; cases h
    | lst h => rw [hp] at h; cases h
    | dic h hl ha =>
      rw [hp] at h; cases h
      exact .dic upd_same (Nat.le_trans put_len (by omega)) (put_ok ha)
    | mix h => rw [hp] at h; cases h
  · cases h with
    | tt h => exact .tt h
    | lst h hl ha => exact .lst h (by omega) ha
    | dic h hl ha => exact .dic h (by omega) ha
    | mix h hl ha => exact .mix h hl ha
theorem s_grown (k : Kd H v m) (hn : ∀ p vs, v = .ref p → H p = some (.lst vs) → vs.length ≤ 900) (hd : ∀ p vs, v = .ref p → H p = some (.dK vs) → vs.length < 900) (h : ∀ H', GwC v H H' → Q .non H') : SP K (n+1) "~_law_grown" [v] H Q E := by
  refine oh__law_grown ?_
  unfold rh__law_grown
  refine seq_ fun N1 h1 => ifS_ fun A B hA hB => ?_
  simp only [cTru, tCB, tCons, tNil, tC, cVar, List.getElem?_cons_zero]
  refine isi_k k (by decide) ?_
  by_cases hl : m = "list"
  · subst hl
    obtain ⟨p, vs, rfl, hp⟩ : ∃ p vs, v = .ref p ∧ H p = some (.lst vs) := by
      generalize hm : ("list" : String) = m' at k
      cases k <;> first | exact ⟨_, _, rfl, by assumption⟩ | exact absurd hm (by decide)
    simp only [show isK "list" "list" = true from rfl, oTru, if_true]
    refine hA _ ?_
    simp only [tDrop]
    refine mCB_blt ?_ fun P P' hh q => mono_var hh q
    simp only [cVar, List.getElem?_cons_zero]
    refine ⟨ins_lst (look_of_lst (K := K) hp), "list", tyB_lst (look_of_lst (K := K) hp), _, b_append, ?_⟩
    simp only [tCons, tNil, tC, mAppend, hp]
    refine ⟨small1000 (by have := hn p vs rfl hp; omega), h1 _ _ (ifS_ fun A2 B2 hA2 hB2 => ?_)⟩
    simp only [cTru, tCB, tCons, tNil, tC, cVar, List.getElem?_cons_zero]
    refine isi_k (.lst upd_same) (by decide) ?_
    simp only [show isK "list" "dict" = false from rfl, oTru, Bool.false_eq_true, if_false]
    refine hB2 _ ?_
    simp only [tNext]
    exact h _ (.inl ⟨p, vs, rfl, hp, rfl⟩)
  · rw [isK_no (m := m) (T := "list") hl fun _ => by decide]
    simp only [oTru, Bool.false_eq_true, if_false]
    refine hB _ ?_
    simp only [tNext]
    refine h1 _ _ (ifS_ fun A2 B2 hA2 hB2 => ?_)
    simp only [cTru, tCB, tCons, tNil, tC, cVar, List.getElem?_cons_zero]
    refine isi_k k (by decide) ?_
    by_cases hdd : m = "dict"
    · subst hdd
      obtain ⟨p, kvs, rfl, hp⟩ : ∃ p kvs, v = .ref p ∧ H p = some (.dK kvs) := by
        generalize hm : ("dict" : String) = m' at k
        cases k <;> first | exact ⟨_, _, rfl, by assumption⟩ | exact absurd hm (by decide)
      simp only [show isK "dict" "dict" = true from rfl, oTru, if_true]
      refine hA2 _ ?_
      simp only [tAsg, gSub, tC, cVar, List.getElem?_cons_zero]
      refine set_dS hp (by have := hd p kvs rfl hp; omega) ?_
      exact h _ (.inr (.inl ⟨p, kvs, rfl, hp, rfl⟩))
    · rw [isK_no (m := m) (T := "dict") hdd fun _ => by decide]
      simp only [oTru, Bool.false_eq_true, if_false]
      refine hB2 _ ?_
      simp only [tNext]
      refine h _ (.inr (.inr ⟨rfl, fun p e => ⟨fun vs z => ?_, fun kvs z => ?_⟩⟩))
      · subst e
        cases k with
        | lst _ => exact hl rfl
        | tup h => rw [h] at z; cases z
        | dK h => exact hdd rfl
      · subst e
        cases k with
        | lst _ => exact hl rfl
        | tup h => rw [h] at z; cases z
        | dK h => exact hdd rfl
theorem s_grown_th (t : Th H N v) (hN : N ≤ 100) (h : ∀ H', GwC v H H' → Q .non H') : SP K (n+1) "~_law_grown" [v] H Q E := by
  obtain ⟨m, k⟩ := t.kd
  refine s_grown k (fun p vs e hp => ?_) (fun p kvs e hp => ?_) h
  · subst e
    cases t with
    | tt t =>
      cases t with
      | sc h => exact h.elim
      | tup h => rw [hp] at h; cases h
    | lst h hl => rw [hp] at h; cases h; omega
    | dic h => rw [hp] at h; cases h
    | mix h => rw [hp] at h; cases h
  · subst e
    cases t with
    | tt t =>
      cases t with
      | sc h => exact h.elim
      | tup h => rw [hp] at h; cases h
    | lst h => rw [hp] at h; cases h
    | dic h hl => rw [hp] at h; cases h; omega
    | mix h => rw [hp] at h; cases h
/-- repr of the found thing and of the thing -/
theorem found_repr {S : Str → Sp} {i : Nat} {a x c : Addr} {σ : L2.St} {te : TE} {R : VK} (h5 : σ[i]? = some (some (.ref a))) (hc : ∃ y ∈ (gg K S).xcs, y.f = "found" ∧ c = y.C) (hx : H x = some (.xd [("found", v)])) (t : Th H N v) (hN : N ≤ 30) (hte : ∀ P : VK, P v H → te σ H P) (q : R (.bl true) H) :
    (tOp (oEq K) (tCB (bRepr K) (tCons (cXf (gg K S) i a (.ref c) (some x) "found") tNil)) (tCB (bRepr K) (tCons te tNil))) σ H R := by
  obtain ⟨y, hy, hf, rfl⟩ := hc
  obtain ⟨s, hs⟩ := repr_th (K := K) t hN
  simp only [tOp, tCB]
  refine cons_ ?_
  refine ⟨h5, y, hy, hf, rfl, x, [("found", v)], v, rfl, hx, rfl, ?_⟩
  simp only [tNil]
  refine hs _ ?_
  refine cons_ (hte _ ?_)
  simp only [tNil]
  refine hs _ (.inl ⟨rfl, ?_⟩)
  rw [decide_eq_true rfl]
  exact q
end
end WR.L

set_option Elab.async false
set_option linter.all false
set_option maxRecDepth 100000
set_option maxHeartbeats 4000000
namespace WR.L
open PySem PySem.Spec PyProof.Rows L2
section
variable {K : PySem.W.Frag} {n : Nat} {H H' : Hp} {Q : VK} {E : XK} {v w : V} {N : Nat} {m : String}
theorem okTx_pcs {t : Str} (h : okTx t = true) : (pcs t).length ≤ 20 := by have := pcs_len h; omega
theorem var_ {i : Nat} {x : V} {σ : L2.St} (h : σ[i]? = some (some x)) (q : Q x H) : cVar i σ H Q := by
  simp only [cVar, h]; exact q
theorem call_ {sp : Sp} {n m : Nat} {arr : List V → List V → List V} {t tk : TA} {W : WX} {σ : L2.St} (h : t σ H fun vs H1 => tk σ H1 fun zs H2 => vs.length = n ∧ zs.length = m ∧ sp (arr vs zs) H2 Q (fun cls d H' => W cls d σ H')) : cCall sp n m arr t tk W σ H Q := h
theorem con_ {x : V} {t : TA} {σ : L2.St} {R : List V → Hp → Prop} (h : t σ H fun xs H1 => R (x :: xs) H1) : tCons (tC x) t σ H R := h
theorem cva_ {i : Nat} {x : V} {t : TA} {σ : L2.St} {R : List V → Hp → Prop} (e : σ[i]? = some (some x)) (h : t σ H fun xs H1 => R (x :: xs) H1) : tCons (cVar i) t σ H R := cons_ (var_ e h)
theorem nil_ {σ : L2.St} {R : List V → Hp → Prop} (h : R [] H) : tNil σ H R := h
end
end WR.L

set_option Elab.async false
set_option linter.all false
set_option maxRecDepth 100000
set_option maxHeartbeats 4000000
namespace WR.L
open PySem PySem.Spec PyProof.Rows L2
section
variable {K : PySem.W.Frag} {n : Nat} {H H' : Hp} {Q : VK} {E : XK} {v w : V} {N : Nat} {m : String}
/-- letters alone -/
def LS (s : Str) : Prop := ∀ c ∈ s.cps.toList, c ∈ lets
theorem app_cps (a b : Str) : (a ++ b).cps.toList = a.cps.toList ++ b.cps.toList := by
  show (a.cps ++ b.cps).toList = _
  simp
theorem len_cps (a : Str) : a.length = a.cps.toList.length := by simp [Str.length]
theorem LS.app {a b : Str} (h : LS a) (k : LS b) : LS (a ++ b) := fun c hc => by
  rw [app_cps, List.mem_append] at hc
  exact hc.elim (h c) (k c)
theorem LS.one {c : Nat} (h : c ∈ lets) : LS ⟨#[c]⟩ := fun d hd => by
  have : d = c := by simpa using hd
  rw [this]; exact h
theorem LS.cut {a : Str} {lo hi : Option Int} (h : LS a) : LS (cutS a lo hi) := fun c hc => by
  unfold cutS at hc
  exact h c (List.mem_of_mem_drop (List.mem_of_mem_take (by simpa using hc)))
theorem LS.nm {s : Str} (h : LS s) (h1 : 1 ≤ s.length) (h2 : s.length ≤ 8) : isNm s = true := by
  unfold isNm
  simp only [h1, h2, decide_true, Bool.true_and, List.all_eq_true, decide_eq_true_eq]
  exact h
theorem cut_len {a : Str} {x y : Nat} (hx : x ≤ y) (hy : y ≤ a.length) : (cutS a (some (x : Int)) (some (y : Int))).length = y - x := by
  rw [len_cps]
  unfold cutS
  rw [HT.sIx_nat, HT.sIx_nat]
  have := len_cps a
  simp only [List.toList_toArray, List.length_take, List.length_drop]
  omega
theorem cut_len0 {a : Str} {y : Nat} (hy : y ≤ a.length) : (cutS a none (some (y : Int))).length = y := by
  rw [len_cps]
  unfold cutS
  rw [HT.sIx_nat, HT.sIx_none]
  have := len_cps a
  simp only [List.toList_toArray, List.length_take, List.length_drop]
  omega
theorem join_one (cs : List Nat) : (Txt.join "" (cs.map fun c => (⟨#[c]⟩ : Str))).cps.toList = cs := by
  show (Builtin.Str.glued "" (cs.map fun c => (⟨#[c]⟩ : Str))).cps.toList = cs
  rw [StrLaws.glued_eq_join]
  induction cs with
  | nil => rfl
  | cons a r ih =>
    cases r with
    | nil => rfl
    | cons b r =>
      show (((⟨#[a]⟩ : Str) ++ "") ++ Str.join "" (List.map (fun c => (⟨#[c]⟩ : Str)) (b :: r))).cps.toList = _
      rw [app_cps, app_cps, ih]
      rfl
theorem sum_le {l : List Str} {b : Nat} (h : ∀ s ∈ l, s.length ≤ b) : (l.map (·.length)).sum ≤ l.length * b := by
  induction l with
  | nil => simp
  | cons x r ih =>
    have h1 := h x (List.mem_cons_self ..)
    have h2 := ih fun s hs => h s (List.mem_cons_of_mem _ hs)
    simp only [List.map_cons, List.sum_cons, List.length_cons, Nat.succ_mul]
    omega
theorem s_cell {a : Addr} {ns : List Int} {j : Nat} (hl : look K H a = some (.lst (ns.map V.int))) (hj : j < 2 ^ 32) (h : ∀ c, Q (.int c) H) : SP K (n+1) "_law_cell" [.ref a, .int j] H Q E :=
  o__law_cell (cell_ok (g := gg K (SP K n)) rfl hl (by decide) hj h)
theorem s_box {c : Int} (h : ∀ b H', H b = none → Ex H H' → Bx H' b 0 → Q (.ref b) H') : SP K (n+1) "_law_box" [.int c] H Q E :=
  o__law_box (box_ok (by decide) h)
theorem s_take {b : Addr} {N : Nat} {many : Int} (hx : Bx H b N) (hN : N < 100000) (h1 : 1 ≤ many) (h2 : many < 2 ^ 60) (h : ∀ r H', 0 ≤ r → r < many → Bx H' b (N + 1) → Fr [b] H H' → Q (.int r) H') : SP K (n+1) "_law_take" [.ref b, .int many] H Q E :=
  o__law_take (take2_ok (K := K) (i := 2) (j := 3) (k1 := 60013) (s1 := 5) (e1 := 5) (m1 := 2147483647) (k2 := 91139) (e2 := 5) (m2 := 2147483629) (d := 32) (.inl ⟨rfl, rfl⟩) hx hN h1 (by omega) (by decide) (by decide) (by decide) (by decide) (by decide) (by decide) (by decide) (by decide) h)
/-- a comprehension over range whose items draw from the box -/
theorem lc_box {k : Nat} {b : Addr} {C : Nat → List V → Prop} {i : Nat} {σ : L2.St} {te : TE} (hb : Bx H b N) (hk : k ≤ 900) (hC0 : C 0 [])
    (hgo : ∀ j acc H1 (R : VK), j < k → C j acc → Bx H1 b (N + j) → Fr [b] H H1 → (∀ y H2, C (j + 1) (acc ++ [y]) → Bx H2 b (N + (j + 1)) → Fr [b] H1 H2 → R y H2) → te (σ.set i (some (.int (j : Nat)))) H1 R)
    (h : ∀ D acc H', C k acc → acc.length = k → Bx H' b (N + k) → Fr [b] H H' → H' D = some (.lst acc) → H D = none → Q (.ref D) H') (hw : ∀ v, wipe (σ.set i (some v)) [i] = wipe σ [i]) (hw2 : wipe σ [i] = σ) {D : Addr} (hD : H D = none) :
    ∃ n, lpc (Itr 0 k) (gName i) tYes te [i] σ D Q n 0 (upd H D (.lst [])) := by
  have hbD : b ≠ D := fun z => by
    obtain ⟨_, _, _, e, _⟩ := hb
    rw [z, hD] at e; cases e
  have hbx : ∀ {H1 : Hp} {M : Nat} {o : HO}, Bx H1 b M → Bx (upd H1 D o) b M := fun hx => by
    obtain ⟨a1, a2, a3, e, r⟩ := hx
    exact ⟨a1, a2, a3, by rw [upd_ne hbD]; exact e, r⟩
  have hfr : ∀ {H1 : Hp} {o : HO}, Fr [b] H H1 → Fr [b] H (upd H1 D o) := fun f c o nc e => by
    rw [upd_ne (ne_of_none e hD)]; exact f c o nc e
  refine lpc_inv (n := k) (fun j H' => Fr [b] H H' ∧ Bx H' b (N + j) ∧ ∃ acc, acc.length = j ∧ C j acc ∧ H' D = some (.lst acc)) ?_ ?_ ⟨hfr Fr.refl, hbx hb, [], rfl, hC0, upd_same⟩
  · rintro H1 ⟨f1, b1, acc, hl, c1, k1⟩
    exact ⟨Nat.le_refl _, h D acc H1 c1 hl b1 f1 k1 hD⟩
  · rintro j H1 hj ⟨f1, b1, acc, hl, c1, k1⟩ R hR
    refine ⟨hj, ?_⟩
    intro x H2 hy
    obtain ⟨rfl, rfl⟩ := itr_yld hy
    rw [hw2, show (0 : Int) + (j : Nat) = ((j : Nat) : Int) from by omega]
    refine ⟨(hw _).trans hw2, yes_ ?_⟩
    refine hgo j acc _ _ hj c1 b1 f1 fun y H3 c3 b3 f3 => ?_
    refine ⟨acc, f3 D _ (by simpa using hbD.symm) k1, by rw [hl]; exact small1000 (by omega), hR _ ⟨hfr (f1.trans f3), hbx b3, acc ++ [y], by simp [hl], c3, upd_same⟩⟩
def SIG : Str := " !\"#$&'()*+,-./0123456789:;<=>?@ABCDEFGHIJKLMNOPQRSTUVWXYZ[\\]^_`abcdefghijklmnopqrstuvwxyz{|}~"
theorem sig_all : SIG.cps.toList.all txC = true ∧ SIG.length = 94 := by decide +kernel
/-- a sign that is drawn -/
theorem sig_at {z : Int} (h0 : 0 ≤ z) (h1 : z < 94) (h : ∀ c, txC c = true → Q (.str ⟨#[c]⟩) H) : oIx K (.str SIG) (.int z) H Q := by
  obtain ⟨k, rfl⟩ := Int.eq_ofNat_of_zero_le h0
  have hl : SIG.cps.toList.length = 94 := by rw [lens]; exact sig_all.2
  simp only [oIx]
  refine ⟨by rw [sig_all.2]; exact Nat.le_of_lt (small1000 (by decide)), ?_⟩
  rw [atI_nat, List.getElem?_eq_getElem (show k < SIG.cps.toList.length from by omega)]
  exact h _ (List.all_eq_true.mp sig_all.1 _ (List.getElem_mem _))
theorem join_ {K' : PySem.W.Frag} {a : Str} {ys : List Str} {p : Addr} {R : VK} (h : H p = some (.lst (ys.map V.str))) (hl : (ys.map (·.length)).sum + ys.length * a.length ≤ 16777216) (q : R (.str (Txt.join a ys)) H) : mJoin K' (.str a) [.ref p] H R :=
  ⟨ys, .inl (look_of_lst h), hl, q⟩
theorem sum_signs (cs : List Nat) (h : cs.length ≤ 1000) : ((cs.map fun c => (⟨#[c]⟩ : Str)).map (·.length)).sum + (cs.map fun c => (⟨#[c]⟩ : Str)).length * ("" : Str).length ≤ 16777216 := by
  have := sum_le (l := cs.map fun c => (⟨#[c]⟩ : Str)) (b := 1) fun s hs => by
    obtain ⟨c, _, rfl⟩ := List.mem_map.mp hs
    exact Nat.le_refl _
  have e : ("" : Str).length = 0 := rfl
  rw [e]
  rw [List.length_map] at this ⊢
  omega
theorem op_ {r : R2} {ta tb : TE} {σ : L2.St} (h : ta σ H fun x H1 => tb σ H1 fun y H2 => r x y H2 Q) : tOp r ta tb σ H Q := h
theorem cb_ {r : RC} {t : TA} {σ : L2.St} (h : t σ H fun xs H1 => r xs H1 Q) : tCB r t σ H Q := h
theorem s_text {b : Addr} {size : Nat} (hb : Bx H b N) (hN : N < 90000) (hs : size ≤ 60) (h : ∀ s H', okTx s = true → Bx H' b (N + size) → Fr [b] H H' → Q (.str s) H') : SP K (n+2) "_law_text" [.ref b, .int (size : Nat)] H Q E := by
  refine o__law_text ?_
  unfold r__law_text
  refine seq_ fun N1 h1 => ?_
  simp only [tAsg, tC]
  generalize hg : V.str (Str.ofString " !\"#$&'()*+,-./0123456789:;<=>?@ABCDEFGHIJKLMNOPQRSTUVWXYZ[\\]^_`abcdefghijklmnopqrstuvwxyz{|}~") = sv
  have hv : sv = V.str SIG := hg.symm
  simp only [gName, List.set_cons_zero, List.set_cons_succ]
  refine h1 _ _ ?_
  simp only [tRet]
  refine mC_blt ?_ fun P P' hh q => mono_C hh q
  refine ⟨rfl, "str", rfl, _, b_join, ?_⟩
  simp only [tCons, tNil]
  refine .inl ?_
  simp only [cLc, cRng1, tCons, tNil, cVar, List.getElem?_cons_zero, List.getElem?_cons_succ]
  refine ⟨⟨by omega, by omega⟩, fun D hD => ?_⟩
  rw [show ((size : Nat) : Int).toNat = size from by omega]
  refine lc_box (k := size) (b := b) (N := N) (C := fun j acc => ∃ cs : List Nat, cs.length = j ∧ (∀ c ∈ cs, txC c = true) ∧ acc = (cs.map fun c => (⟨#[c]⟩ : Str)).map V.str) hb (by omega) ⟨[], rfl, (fun c z => nomatch z), rfl⟩ ?_ ?_ (fun v => rfl) rfl hD
  · rintro j acc H1 R hj ⟨cs, hl, hc, rfl⟩ b1 f1 q
    refine op_ (var_ (x := sv) rfl (call_ (cva_ rfl (cons_ (cb_ (cva_ rfl (nil_ ?_)))))))
    rw [hv]
    rw [len_str]
    refine ⟨by rw [sig_all.2]; exact Nat.le_of_lt (small1000 (by decide)), nil_ (nil_ ⟨rfl, rfl, ?_⟩)⟩
    rw [sig_all.2]
    refine s_take (n := n) (many := 94) b1 (by omega) (by decide) (by decide) fun r H2 r0 r1 b2 f2 => ?_
    refine sig_at r0 r1 fun c hc' => q _ _ ⟨cs ++ [c], by simp [hl], fun d hd => ?_, by simp⟩ b2 f2
    rcases List.mem_append.mp hd with hd | hd
    · exact hc d hd
    · rw [List.mem_singleton] at hd; subst hd; exact hc'
  · rintro D2 acc H1 ⟨cs, hl, hc, rfl⟩ hal b1 f1 k1 hD2
    refine join_ (ys := cs.map fun c => (⟨#[c]⟩ : Str)) k1 (sum_signs cs (by omega)) ?_
    · have hst := join_one cs
      refine h _ _ ?_ b1 f1
      unfold okTx
      rw [len_cps, hst, hl]
      simp only [Bool.and_eq_true, decide_eq_true_eq, List.all_eq_true]
      exact ⟨hs, hc⟩
end
end WR.L

set_option Elab.async false
set_option linter.all false
set_option maxRecDepth 100000
set_option maxHeartbeats 4000000
namespace WR.L
open PySem PySem.Spec PyProof.Rows L2
section
variable {K : PySem.W.Frag} {n : Nat} {H H' : Hp} {Q : VK} {E : XK} {v w : V} {N : Nat} {m : String}
theorem inV_strs {s : Str} {xs : List Str} : inV (.str s) (xs.map V.str) = decide (s ∈ xs) := by
  unfold inV
  rw [List.any_map]
  induction xs with
  | nil => rfl
  | cons x r ih =>
    rw [List.any_cons, ih]
    show ((x == s) || decide (s ∈ r)) = _
    by_cases e : x = s
    · subst e; simp
    · have h2 : ¬ s = x := fun z => e z.symm
      simp [e, h2]
theorem flat_strs {xs : List Str} : (xs.map V.str).all flatV = true := List.all_eq_true.mpr fun v hv => by
  obtain ⟨s, _, rfl⟩ := List.mem_map.mp hv
  rfl
theorem in_strs {p : Addr} {xs : List Str} {s : Str} {b : Bool} (h : look K H p = some (.lst (xs.map V.str))) (q : Q (.bl (b ^^ decide (s ∈ xs))) H) : oIn K b (.str s) (.ref p) H Q := by
  simp only [oIn, h]
  exact .inl ⟨rfl, flat_strs, by rw [inV_strs]; exact q⟩
theorem okS_of {s : Str} (h : ∀ c ∈ s.cps.toList, c < 1114112) : okS s := by
  show s.cps.all (· < 0x110000) = true
  rw [← Array.all_toList, List.all_eq_true]
  intro c hc
  exact decide_eq_true (h c hc)
theorem nm_okS {s : Str} (h : isNm s = true) : okS s := okS_of fun c hc => by
  have := lets_small c (isNm_lets h c hc)
  omega
theorem ne_nil {a b : Addr} {ss : List Str} {S : Str → Sp} (ha : H a = some (.lst (ss.map V.str))) (hb : H b = some (.lst [])) (h : ∀ s ∈ ss, okS s) (q : Q (.bl (!ss.isEmpty)) H) : oNeG (gg K S) (.ref a) (.ref b) H Q := by
  unfold oNeG
  rw [ins_lst (look_of_lst (K := K) ha)]
  refine .inl (.inr ⟨_, _, .lst (.inl (.inl ha)) (dpStrs ss), .lst (.inl (.inl hb)) .nil, shaped_strs h, shaped_strs (ss := []) (fun _ z => nomatch z), ?_⟩)
  have : PyData.eqv (.list (ss.map PyData.str)) (.list []) = ss.isEmpty := by
    cases ss with
    | nil => rfl
    | cons a b => rfl
  rw [this]
  exact q
theorem cut_min {a : Str} {y : Nat} : (cutS a none (some (y : Int))).length = min y a.length := by
  rw [len_cps]
  unfold cutS
  rw [HT.sIx_nat, HT.sIx_none]
  have := len_cps a
  simp only [List.toList_toArray, List.length_take, List.length_drop]
  omega
theorem asg_ {te : TE} {i : Nat} {D : Ends} {σ : L2.St} (h : te σ H fun x H1 => D.nx (σ.set i (some x)) H1) : tAsg te (gName i) D σ H := h
theorem ret_ {te : TE} {D : Ends} {σ : L2.St} (h : te σ H fun x H1 => D.rt x H1) : tRet te D σ H := h
theorem next_ {D : Ends} {σ : L2.St} (h : D.nx σ H) : tNext D σ H := h
theorem drop_ {te : TE} {D : Ends} {σ : L2.St} (h : te σ H fun _ H1 => D.nx σ H1) : tDrop te D σ H := h
theorem test_ {t : TE} {σ : L2.St} {R : Bool → Hp → Prop} (h : t σ H fun x H1 => match x with | .bl b => R b H1 | _ => False) : cTest t σ H R := h
theorem slc_ {r : V → Option Int → Option Int → Hp → VK → Prop} {te : TE} {th : TO} {σ : L2.St} (h : te σ H fun x H1 => th σ H1 fun u H2 => r x none u H2 Q) : tSl r te tNoPart th σ H Q := h
theorem cpt_ {t : TE} {σ : L2.St} {R : Option Int → Hp → Prop} (h : t σ H fun x H1 => match x with | .int i => R (some i) H1 | _ => False) : cPart t σ H R := h
theorem const_ {x : V} {σ : L2.St} (q : Q x H) : tC x σ H Q := q
theorem iff_t {c : Bool} {A B : Prop} (e : c = true) (h : A) : if c = true then A else B := by rw [if_pos e]; exact h
theorem iff_f {c : Bool} {A B : Prop} (e : c = false) (h : B) : if c = true then A else B := by rw [if_neg (by rw [e]; decide)]; exact h
/-- .. with a test and an item that are told -/
theorem lc_filf {i : Nat} {σ : St} {s : Str} {tt : L2.TT} {te : TE} {f : Nat → Bool} {g : Nat → V} (hs : s.length ≤ 1000)
    (hf : ∀ c H1 (R : Bool → Hp → Prop), c ∈ s.cps.toList → Ex H H1 → R (f c) H1 → tt (σ.set i (some (.str ⟨#[c]⟩))) H1 R)
    (hg : ∀ c H1 (R : VK), c ∈ s.cps.toList → Ex H H1 → R (g c) H1 → te (σ.set i (some (.str ⟨#[c]⟩))) H1 R)
    (h : ∀ D H', Ex H H' → H D = none → H' D = some (.lst ((s.cps.toList.filter f).map g)) → Q (.ref D) H') (hw : ∀ v, wipe (σ.set i (some v)) [i] = wipe σ [i]) (hw2 : wipe σ [i] = σ) :
    cLcL (fun σ H R => R (Its s) H) (gName i) tt te [i] σ H Q := by
  refine .inl ?_
  intro D hD
  refine lpc_inv (n := s.cps.size) (fun j H' => Ex H H' ∧ H' D = some (.lst (((s.cps.toList.take j).filter f).map g))) ?_ ?_ ⟨Ex.refl.new hD, by rw [upd_same]; rfl⟩
  · rintro H' ⟨h1, h2⟩
    refine ⟨Nat.le_refl _, h D H' h1 hD ?_⟩
    rw [h2]
    have e : s.cps.toList.take s.cps.size = s.cps.toList := List.take_of_length_le (by simp)
    rw [e]
  · rintro j H' hj ⟨h1, h2⟩ R hR
    refine ⟨hj, ?_⟩
    rintro x H2 ⟨rfl, c, hc, rfl⟩
    rw [hw2]
    have e : s.cps.toList[j]? = some c := by simpa using hc
    refine ⟨(hw _).trans hw2, ?_⟩
    refine hf c _ _ (List.mem_of_getElem? e) h1 ?_
    have ex2 : ∀ x : HO, Ex H (upd H2 D x) := fun x a o e => by
      by_cases hb : a = D
      · subst hb; rw [hD] at e; cases e
      · rw [upd_ne hb]; exact h1 a o e
    cases q : f c with
    | true =>
      simp only [if_true]
      refine hg c _ _ (List.mem_of_getElem? e) h1 ?_
      refine ⟨_, h2, ?_, hR _ ⟨ex2 _, ?_⟩⟩
      · rw [List.length_map]
        have := small1000 hs
        have e : s.cps.toList.length = s.length := lens
        have := List.length_filter_le f (s.cps.toList.take j)
        rw [List.length_take] at this
        omega
      · rw [upd_same, List.take_add_one, e]
        simp [q]
    | false =>
      simp only [Bool.false_eq_true, if_false]
      refine hR _ ⟨h1, ?_⟩
      rw [h2, List.take_add_one, e]
      simp [q]
end
end WR.L

set_option Elab.async false
set_option linter.all false
set_option maxRecDepth 100000
set_option maxHeartbeats 4000000
namespace WR.L
open PySem PySem.Spec PyProof.Rows L2
section
variable {K : PySem.W.Frag} {n : Nat} {H H' : Hp} {Q : VK} {E : XK} {v w : V} {N : Nat} {m : String}
/-- what the head tells of the written part -/
structure Hx (K : PySem.W.Frag) : Prop where
  xNoText : xcX K (He.ga K "NoText") [(He.ga K "Away", false), (He.ga K "WrongPiece", false), (He.ga K "Lacks", false), (He.ga K "NoCard", false), (He.ga K "NoList", false), (He.ga K "PeerError", true)] [] = true
  xNoCard : xcX K (He.ga K "NoCard") [(He.ga K "Away", false), (He.ga K "WrongPiece", false), (He.ga K "Lacks", false), (He.ga K "NoCard", true), (He.ga K "NoList", false), (He.ga K "PeerError", true)] [] = true
  xNoList : xcX K (He.ga K "NoList") [(He.ga K "Away", false), (He.ga K "WrongPiece", false), (He.ga K "Lacks", false), (He.ga K "NoCard", false), (He.ga K "NoList", true), (He.ga K "PeerError", true)] [] = true
  xAway : xcX K (He.ga K "Away") [(He.ga K "Away", true), (He.ga K "WrongPiece", false), (He.ga K "Lacks", false), (He.ga K "NoCard", false), (He.ga K "NoList", false), (He.ga K "PeerError", false)] [] = true
  xLacks : xcX K (He.ga K "Lacks") [(He.ga K "Away", false), (He.ga K "WrongPiece", false), (He.ga K "Lacks", true), (He.ga K "NoCard", false), (He.ga K "NoList", false), (He.ga K "PeerError", false)] [] = true
  xWrongPiece : xcX K (He.ga K "WrongPiece") [(He.ga K "Away", false), (He.ga K "WrongPiece", true), (He.ga K "Lacks", false), (He.ga K "NoCard", false), (He.ga K "NoList", false), (He.ga K "PeerError", false)] [] = true
theorem hx_of (h : y.ex K = true) : Hx K := by
  simp only [y, Bool.and_eq_true] at h
  obtain ⟨⟨⟨⟨⟨h1, h2⟩, h3⟩, h4⟩, h5⟩, h6⟩ := h
  exact ⟨h1, h2, h3, h4, h5, h6⟩
theorem xcs_all {S : Str → Sp} : (gg K S).xcs = [⟨"NoText", He.ga K "NoText", "found"⟩, ⟨"NoCard", He.ga K "NoCard", "found"⟩, ⟨"NoList", He.ga K "NoList", "found"⟩, ⟨"Away", He.ga K "Away", "found"⟩, ⟨"Lacks", He.ga K "Lacks", "found"⟩, ⟨"WrongPiece", He.ga K "WrongPiece", "at"⟩] := by kernel_rfl
/-- a flat thing -/
def Fl (H : Hp) (N : Nat) (x : V) : Prop := okSc x ∨ ∃ p, x = .ref p ∧ ((∃ vs, H p = some (.tup vs) ∧ vs.length ≤ 20 ∧ ∀ z ∈ vs, okSc z) ∨ (∃ vs, H p = some (.lst vs) ∧ vs.length ≤ N ∧ ∀ z ∈ vs, okSc z) ∨ ∃ kvs, H p = some (.dK kvs) ∧ kvs.length ≤ N ∧ ∀ kv ∈ kvs, okKv kv)
theorem Fl.th (f : Fl H N v) : Th H N v := by
  rcases f with h | ⟨p, rfl, ⟨vs, hp, hl, ha⟩ | ⟨vs, hp, hl, ha⟩ | ⟨kvs, hp, hl, ha⟩⟩
  · exact .tt (.sc h)
  · exact .tt (.tup hp hl fun z hz => .sc (ha z hz))
  · exact .lst hp hl fun z hz => .sc (ha z hz)
  · exact .dic hp hl ha
theorem Fl.cm (f : Fl H N v) : Cm H v := by
  rcases f with h | ⟨p, rfl, ⟨vs, hp, hl, ha⟩ | ⟨vs, hp, hl, ha⟩ | ⟨kvs, hp, hl, ha⟩⟩
  · obtain ⟨m, k⟩ := sc_kd (H := H) h; exact ⟨m, k, .inl h⟩
  · exact ⟨_, .tup hp, .inr (by decide)⟩
  · exact ⟨_, .lst hp, .inr (by decide)⟩
  · exact ⟨_, .dK hp, .inr (by decide)⟩
theorem Fl.up {M : Nat} (f : Fl H N v) (l : N ≤ M) : Fl H M v := f.imp id fun ⟨p, e, h⟩ => ⟨p, e, h.imp id fun h => h.imp (fun ⟨vs, a, b, c⟩ => ⟨vs, a, by omega, c⟩) fun ⟨vs, a, b, c⟩ => ⟨vs, a, by omega, c⟩⟩
theorem Fl.gw (g : Gw w H H') (ne : v ≠ w) (f : Fl H N v) : Fl H' N v := f.imp id fun ⟨p, e, h⟩ => by
  have nw : w ≠ .ref p := fun z => ne (by rw [e, z])
  exact ⟨p, e, h.imp (fun ⟨vs, a, b⟩ => ⟨vs, g.1 _ _ nw a, b⟩) fun h => h.imp (fun ⟨vs, a, b⟩ => ⟨vs, g.1 _ _ nw a, b⟩) fun ⟨vs, a, b⟩ => ⟨vs, g.1 _ _ nw a, b⟩⟩
theorem Fl.ex (x : Ex H H') (f : Fl H N v) : Fl H' N v := f.imp id fun ⟨p, e, h⟩ => ⟨p, e, h.imp (fun ⟨vs, a, b⟩ => ⟨vs, x _ _ a, b⟩) fun h => h.imp (fun ⟨vs, a, b⟩ => ⟨vs, x _ _ a, b⟩) fun ⟨vs, a, b⟩ => ⟨vs, x _ _ a, b⟩⟩
theorem Fl.grown (g : GwC v H H') (f : Fl H N v) : Fl H' (N + 1) v := by
  rcases g with ⟨p, vs, rfl, hp, rfl⟩ | ⟨p, kvs, rfl, hp, rfl⟩ | ⟨rfl, _⟩
  · rcases f with h | ⟨p', e, ⟨ws, hq, hl, ha⟩ | ⟨ws, hq, hl, ha⟩ | ⟨ws, hq, hl, ha⟩⟩
    · exact h.elim
    · cases e; rw [hp] at hq; cases hq
    · cases e; rw [hp] at hq; cases hq
      refine .inr ⟨p, rfl, .inr (.inl ⟨_, upd_same, by simp; omega, fun x hx => ?_⟩)⟩
      rcases List.mem_append.mp hx with hx | hx
      · exact ha x hx
      · rw [List.mem_singleton] at hx; subst hx; exact sc7
    · cases e; rw [hp] at hq; cases hq
  · rcases f with h | ⟨p', e, ⟨ws, hq, hl, ha⟩ | ⟨ws, hq, hl, ha⟩ | ⟨ws, hq, hl, ha⟩⟩
    · exact h.elim
    · cases e; rw [hp] at hq; cases hq
    · cases e; rw [hp] at hq; cases hq
    · cases e; rw [hp] at hq; cases hq
      exact .inr ⟨p, rfl, .inr (.inr ⟨_, upd_same, Nat.le_trans put_len (by omega), put_ok ha⟩)⟩
  · exact f.up (by omega)
/-! ## repr of a card -/
theorem dxInts : ∀ {is : List Int} {ds : List PyData}, DxAll K H (is.map V.int) ds → ds = is.map PyData.int
  | [], _, h => by cases h; rfl
  | i :: is, _, h => by
    cases h with
    | cons h1 h2 => cases h1; rw [dxInts h2]; rfl
end
end WR.L

set_option Elab.async false
set_option linter.all false
set_option maxRecDepth 100000
set_option maxHeartbeats 4000000
namespace WR.L
open PySem PySem.Spec PyProof.Rows L2
section
variable {K : PySem.W.Frag} {n : Nat} {H H0 H1 H2 H' : Hp} {Q : VK} {E : XK} {v w : V} {N : Nat} {m : String} {b : Addr}
/-! ## things that are drawn -/
def Gd (H0 H : Hp) (x : V) : Prop := Fl H 1 x ∧ ∀ p, x = .ref p → H0 p = none
theorem Gd.ex (x : Ex H1 H2) (g : Gd H0 H1 v) : Gd H0 H2 v := ⟨g.1.ex x, g.2⟩
def BE (H0 : Hp) (te : TE) : Prop := ∀ (σ : L2.St) (H : Hp) (P : VK), Ex H0 H → (∀ x H1, Ex H H1 → Gd H0 H1 x → P x H1) → te σ H P
def BL (H0 : Hp) (k : Nat) (ts : TA) : Prop := ∀ (σ : L2.St) (H : Hp) (R : List V → Hp → Prop), Ex H0 H → (∀ xs H1, Ex H H1 → xs.length = k → (∀ x ∈ xs, Gd H0 H1 x) → R xs H1) → ts σ H R
theorem BL.nil : BL H0 0 tNil := fun σ H R _ h => h [] H Ex.refl rfl (fun x hx => nomatch hx)
theorem BL.cons {te : TE} {ts : TA} {k : Nat} (a : BE H0 te) (b : BL H0 k ts) : BL H0 (k+1) (tCons te ts) := fun σ H R e h => a σ H _ e fun x H1 e1 g => b σ H1 _ (e.trans e1) fun xs H2 e2 hl hg => h (x :: xs) H2 (e1.trans e2) (by simp [hl]) (fun z hz => by
  rcases List.mem_cons.mp hz with rfl | hz
  · exact g.ex e2
  · exact hg z hz)
theorem BE.sc {x : V} (h : okSc x) : BE H0 (tC x) := fun σ H P e q => q x H Ex.refl ⟨.inl h, fun p z => by subst z; exact h.elim⟩
theorem BE.pure {te : TE} {x : V} (h : okSc x) (t : ∀ σ H (P : VK), P x H → te σ H P) : BE H0 te := fun σ H P e q => t σ H P (q x H Ex.refl ⟨.inl h, fun p z => by subst z; exact h.elim⟩)
theorem BE.tup {ts : TA} {xs : List V} (t : ∀ σ H (R : List V → Hp → Prop), R xs H → ts σ H R) (hl : xs.length ≤ 20) (ha : ∀ z ∈ xs, okSc z) : BE H0 (tTup ts) := fun σ H P e q => t σ H _ ⟨by rw [sizeLine_eq]; omega, fun p hp => q _ _ (Ex.refl.new hp) ⟨.inr ⟨p, rfl, .inl ⟨xs, upd_same, hl, ha⟩⟩, fun p' z => by cases z; exact Ex.none e hp⟩⟩
theorem BE.lst {ts : TA} {xs : List V} (t : ∀ σ H (R : List V → Hp → Prop), R xs H → ts σ H R) (hl : xs.length ≤ 1) (ha : ∀ z ∈ xs, okSc z) : BE H0 (tLst ts) := fun σ H P e q => t σ H _ ⟨by rw [sizeLine_eq]; omega, fun p hp => q _ _ (Ex.refl.new hp) ⟨.inr ⟨p, rfl, .inr (.inl ⟨xs, upd_same, hl, ha⟩)⟩, fun p' z => by cases z; exact Ex.none e hp⟩⟩
theorem BE.d0 : BE H0 tDNewK := fun σ H P e q p hp => q _ _ (Ex.refl.new hp) ⟨.inr ⟨p, rfl, .inr (.inr ⟨[], upd_same, by simp, fun kv h => nomatch h⟩)⟩, fun p' z => by cases z; exact Ex.none e hp⟩
theorem sc1 {i : Int} (h : i.natAbs < 10 ^ 40) : okSc (.int i) := h
theorem sca {s : Str} (h1 : s.length ≤ 100) (h2 : ∀ c ∈ s.cps.toList, c < 128) : okSc (.str s) := ⟨h1, h2⟩
theorem BE.d1 : BE H0 (tDisp [((tC (.str "a")), (tC (.int 1)))]) := fun σ H P e q => by
  unfold tDisp
  intro p hp
  refine ⟨upd_same, [(.inr "a", .int 1)], rfl, by simp, ?_⟩
  have eu : upd (upd H p (.dK [])) p (.dK (mergeK [] [((.inr "a" : Key), V.int 1)])) = upd H p (.dK (mergeK [] [((.inr "a" : Key), V.int 1)])) := by
    funext a
    by_cases z : a = p
    · subst z; rw [upd_same, upd_same]
    · rw [upd_ne z, upd_ne z, upd_ne z]
  rw [eu]
  refine q _ _ (Ex.refl.new hp) ⟨.inr ⟨p, rfl, .inr (.inr ⟨[(.inr "a", .int 1)], by rw [upd_same]; rfl, by simp, fun kv hkv => ?_⟩)⟩, fun p' z => by cases z; exact Ex.none e hp⟩
  rw [List.mem_singleton] at hkv
  subst hkv
  exact ⟨⟨_, rfl, by decide, by unfold As; decide +kernel⟩, sc1 (by decide)⟩
theorem bx_tp (hb : Bx H b N) (f : Fr [b] H H') : Tp H H' := fun t xs e => f t _ (fun z => by
  rw [List.mem_singleton] at z
  obtain ⟨_, _, _, e2, _⟩ := hb
  rw [z, e2] at e; cases e) e
theorem bx_ne {x : Addr} (hb : Bx H b N) (h : H x = none) : x ≠ b := fun z => by
  obtain ⟨_, _, _, e, _⟩ := hb
  rw [z, e] at h; cases h
theorem fr_at {o : HO} {p : Addr} (f : Fr [b] H H') (ne : p ≠ b) (h : H p = some o) : H' p = some o := f p o (by simpa using ne) h
theorem Fl.fr {M : Nat} (hb : Bx H b N) (f : Fr [b] H H') (ne : ∀ p, v = .ref p → p ≠ b) (g : Fl H M v) : Fl H' M v := g.imp id fun ⟨p, e, h⟩ => ⟨p, e, h.imp (fun ⟨vs, a, q⟩ => ⟨vs, fr_at f (ne p e) a, q⟩) fun h => h.imp (fun ⟨vs, a, q⟩ => ⟨vs, fr_at f (ne p e) a, q⟩) fun ⟨vs, a, q⟩ => ⟨vs, fr_at f (ne p e) a, q⟩⟩
theorem lst_ {ts : TA} {σ : L2.St} (h : ts σ H fun xs H1 => xs.length ≤ sizeLine ∧ ∀ p, H1 p = none → Q (.ref p) (upd H1 p (.lst xs))) : tLst ts σ H Q := h
theorem tup_ {ts : TA} {σ : L2.St} (h : ts σ H fun xs H1 => xs.length ≤ sizeLine ∧ ∀ p, H1 p = none → Q (.ref p) (upd H1 p (.tup xs))) : tTup ts σ H Q := h
/-- a list of drawn items, one of them taken -/
theorem pick_ {ts : TA} {k : Nat} {σ : L2.St} {W : WX} {i : Nat} (bl : BL H k ts) (hk : 1 ≤ k ∧ k ≤ 100) (hb : Bx H b N) (hN : N < 100000) (hi : σ[i]? = some (some (.ref b))) (h : ∀ x H', Fl H' 1 x → (∀ p, x = .ref p → H p = none) → Bx H' b (N + 1) → Fr [b] H H' → Q x H') :
    tOp (oIx K) (tLst ts) (cCall (SP K (n+1) "_law_take") 2 0 (fun vs _ => vs) (tCons (cVar i) (tCons (tC (.int (k : Nat))) tNil)) tNil W) σ H Q := by
  refine op_ (lst_ (bl σ H _ Ex.refl fun xs H1 e1 hl hg => ⟨by rw [sizeLine_eq]; omega, fun p hp => call_ (cva_ hi (con_ (nil_ (nil_ ⟨rfl, rfl, ?_⟩))))⟩))
  have x2 : Ex H (upd H1 p (.lst xs)) := e1.new (Ex.none e1 hp)
  have k2 : (upd H1 p (.lst xs)) p = some (.lst xs) := upd_same
  have g2 : ∀ x ∈ xs, Gd H (upd H1 p (.lst xs)) x := fun x hx => (hg x hx).ex (Ex.refl.new hp)
  generalize upd H1 p (.lst xs) = H2 at x2 k2 g2 ⊢
  have b2 := hb.ex x2
  refine s_take (n := n) b2 hN (by omega) (by omega) fun r H3 r0 r1 b3 f3 => ?_
  obtain ⟨j, rfl⟩ := Int.eq_ofNat_of_zero_le r0
  have hj : j < xs.length := by omega
  have pb : p ≠ b := bx_ne hb (Ex.none e1 hp)
  rw [ix_lst (look_of_lst (fr_at f3 pb k2)) (v := xs[j]) (by rw [atI_nat]; simp [hj])]
  obtain ⟨g, gn⟩ := g2 _ (List.getElem_mem hj)
  exact h _ _ (g.fr b2 f3 fun p e => bx_ne hb (gn p e)) gn b3 ((Fr.ex x2).trans f3)
theorem s__law_thing (hb : Bx H b N) (hN : N < 100000) (h : ∀ x H', Fl H' 1 x → (∀ p, x = .ref p → H p = none) → Bx H' b (N + 1) → Fr [b] H H' → Q x H') : SP K (n+2) "_law_thing" [.ref b] H Q E := by
  refine o__law_thing ?_
  unfold r__law_thing
  refine seq_ fun N1 h1 => ?_
  have bl : BL H 17 (tCons (tC .non) (tCons (tC (.bl true)) (tCons (tC (.bl false)) (tCons (tC (.int 0)) (tCons (tC (.int 1)) (tCons (cUn (tC (.int 1))) (tCons (tOp oPow (tC (.int 10)) (tC (.int 29))) (tCons (tC (.str "")) (tCons (tC (.str "A")) (tCons (tC (.str "a b")) (tCons (tTup tNil) (tCons (tTup (tCons (tC (.int 1)) tNil)) (tCons (tLst tNil) (tCons (tLst (tCons (tC (.str "a")) tNil)) (tCons tDNewK (tCons (tDisp [((tC (.str "a")), (tC (.int 1)))]) (tCons (tTup (tCons (tC (.str "a")) (tCons (tC (.int 1)) (tCons (tC (.str "b")) tNil)))) tNil))))))))))))))))) := by
    refine .cons (.sc trivial) (.cons (.sc trivial) (.cons (.sc trivial) (.cons (.sc (sc1 (by decide))) (.cons (.sc (sc1 (by decide))) (.cons (.pure (x := .int (-1)) (sc1 (by decide)) fun σ H P q => q) (.cons (.pure (x := .int (10 ^ 29)) (sc1 (by decide)) fun σ H P q => ?_) (.cons (.sc (sca (by decide) (by decide +kernel))) (.cons (.sc (sca (by decide) (by decide +kernel))) (.cons (.sc (sca (by decide) (by decide +kernel))) (.cons (.tup (xs := []) (fun σ H R q => q) (by decide) (fun z hz => nomatch hz)) (.cons (.tup (xs := [.int 1]) (fun σ H R q => q) (by decide) ?_) (.cons (.lst (xs := []) (fun σ H R q => q) (by decide) (fun z hz => nomatch hz)) (.cons (.lst (xs := [.str "a"]) (fun σ H R q => q) (by decide) ?_) (.cons .d0 (.cons .d1 (.cons (.tup (xs := [.str "a", .int 1, .str "b"]) (fun σ H R q => q) (by decide) ?_) .nil))))))))))))))))
    · simp only [tOp, tC, oPow]
      exact ⟨⟨by omega, by omega, by omega⟩, q⟩
    · intro z hz
      rw [List.mem_singleton] at hz
      subst hz
      exact sc1 (by decide)
    · intro z hz
      rw [List.mem_singleton] at hz
      subst hz
      exact sca (by decide) (by decide +kernel)
    · intro z hz
      simp only [List.mem_cons, List.not_mem_nil, or_false] at hz
      rcases hz with rfl | rfl | rfl
      · exact sca (by decide) (by decide +kernel)
      · exact sc1 (by decide)
      · exact sca (by decide) (by decide +kernel)
  refine asg_ (lst_ (bl _ H _ Ex.refl fun xs H1 e1 hl hg => ⟨by rw [sizeLine_eq]; omega, fun p hp => h1 _ _ ?_⟩))
  refine ret_ (op_ (var_ rfl (call_ (cva_ rfl (con_ (nil_ (nil_ ⟨rfl, rfl, ?_⟩)))))))
  have x2 : Ex H (upd H1 p (.lst xs)) := e1.new (Ex.none e1 hp)
  have k2 : (upd H1 p (.lst xs)) p = some (.lst xs) := upd_same
  have g2 : ∀ x ∈ xs, Gd H (upd H1 p (.lst xs)) x := fun x hx => (hg x hx).ex (Ex.refl.new hp)
  generalize upd H1 p (.lst xs) = H2 at x2 k2 g2 ⊢
  have b2 := hb.ex x2
  refine s_take (n := n) (many := 17) b2 hN (by omega) (by omega) fun r H3 r0 r1 b3 f3 => ?_
  obtain ⟨j, rfl⟩ := Int.eq_ofNat_of_zero_le r0
  have hj : j < xs.length := by omega
  have pb : p ≠ b := bx_ne hb (Ex.none e1 hp)
  rw [ix_lst (look_of_lst (fr_at f3 pb k2)) (v := xs[j]) (by rw [atI_nat]; simp [hj])]
  obtain ⟨g, gn⟩ := g2 _ (List.getElem_mem hj)
  exact h _ _ (g.fr b2 f3 fun p e => bx_ne hb (gn p e)) gn b3 ((Fr.ex x2).trans f3)
end
end WR.L

set_option Elab.async false
set_option linter.all false
set_option maxRecDepth 100000
set_option maxHeartbeats 4000000
namespace WR.L
open PySem PySem.Spec PyProof.Rows L2
section
variable {K : PySem.W.Frag} {n : Nat} {H H' : Hp} {Q : VK} {E : XK} {v w : V} {N : Nat} {m : String}
theorem Th.ex (x : Ex H H') (h : Th H N v) : Th H' N v := by
  cases h with
  | tt h => exact .tt (h.tp x.tp)
  | lst h hl ha => exact .lst (x _ _ h) hl fun z hz => (ha z hz).tp x.tp
  | dic h hl ha => exact .dic (x _ _ h) hl ha
  | mix h hl ha => exact .mix (x _ _ h) hl fun z hz => (ha z hz).imp (fun t => t.tp x.tp) fun ⟨q, xs, e, hq, r⟩ => ⟨q, xs, e, x _ _ hq, r⟩
theorem Crd.ex (x : Ex H H') (h : Crd H v) : Crd H' v := by
  obtain ⟨p, k, nu, b, mv, rfl, hp, a1, a2, a3, a4⟩ := h
  exact ⟨p, k, nu, b, mv, rfl, x _ _ hp, a1, a2, a3, a4.imp id fun ⟨q, ms, e, hq, r⟩ => ⟨q, ms, e, x _ _ hq, r⟩⟩
theorem crd_back (x : Ex H H') (h : Th H N v) (c : Crd H' v) : Crd H v := by
  obtain ⟨p, k, nu, b, mv, rfl, hp, a1, a2, a3, a4⟩ := c
  have fin : ∀ vs, H p = some (.tup vs) → (∀ z ∈ vs, ∀ q, z = .ref q → ∃ o, H q = some o) → Crd H (.ref p) := fun vs e t => by
    have e' := x _ _ e
    rw [hp] at e'
    cases e'
    refine ⟨p, k, nu, b, mv, rfl, e, a1, a2, a3, a4.imp id fun ⟨q, ms, e2, hq, r⟩ => ⟨q, ms, e2, ?_, r⟩⟩
    obtain ⟨o, ho⟩ := t mv (by simp) q e2
    have := x _ _ ho
    rw [hq] at this
    cases this
    exact ho
  have tre : ∀ {j : Nat} {z : V} {q : Addr}, Tre H j z → z = .ref q → ∃ o, H q = some o := fun {j z q} t e => by
    subst e
    cases t with
    | sc h => exact h.elim
    | tup h => exact ⟨_, h⟩
  cases h with
  | tt h =>
    cases h with
    | sc h => exact h.elim
    | tup h hl ha => exact fin _ h fun z hz q e => tre (ha z hz) e
  | lst h => have := x _ _ h; rw [hp] at this; cases this
  | dic h => have := x _ _ h; rw [hp] at this; cases this
  | mix h hl ha =>
    refine fin _ h fun z hz q e => ?_
    rcases ha z hz with t | ⟨q', xs, rfl, hq, _⟩
    · exact tre t e
    · cases e; exact ⟨_, hq⟩
theorem repr_bl (b : Bool) {P : VK} (q : P (.str (PyData.shown (.bool b))) H) : bRepr K [.bl b] H P := by
  refine repr_d (L := 10) (k := 0) (.bl b) ⟨rfl, Nat.le_refl _, by cases b <;> decide⟩ (by decide) (by decide) q
end
end WR.L

set_option Elab.async false
set_option linter.all false
set_option maxRecDepth 100000
set_option maxHeartbeats 4000000
namespace WR.L
open PySem PySem.Spec PyProof.Rows L2
section
variable {K : PySem.W.Frag} {n : Nat} {H H0 H1 H2 H' : Hp} {Q : VK} {E : XK} {v w : V} {N : Nat} {m : String} {b : Addr}
/-! ## a card, bent -/
theorem sl_tup {a : Addr} {xs : List V} {lo hi : Option Int} (h : H a = some (.tup xs)) (q : ∀ p H', Ex H H' → H' p = some (.tup (cutV xs lo hi)) → Q (.ref p) H') : oSl K (.ref a) lo hi H Q := by
  simp only [oSl, look_of_tup (K := K) h]
  refine ⟨fun ⟨z1, z2⟩ => q a H Ex.refl ?_, fun _ p hp => q p _ (Ex.refl.new hp) upd_same⟩
  unfold cutV
  rw [z1, z2, h]
  simp
theorem cut_take {xs : List V} {k : Nat} : cutV xs none (some (k : Int)) = xs.take k := by
  unfold cutV
  rw [HT.sIx_nat, HT.sIx_none, List.drop_zero, Nat.sub_zero]
  by_cases h : k ≤ xs.length
  · rw [Nat.min_eq_left h]
  · rw [Nat.min_eq_right (by omega), List.take_of_length_le (Nat.le_refl _), List.take_of_length_le (by omega)]
theorem cut_drop {xs : List V} {k : Nat} : cutV xs (some (k : Int)) none = xs.drop k := by
  unfold cutV
  rw [HT.sIx_nat, HT.sIx_none]
  by_cases h : k ≤ xs.length
  · rw [Nat.min_eq_left h]
    exact List.take_of_length_le (by rw [List.length_drop]; omega)
  · rw [Nat.min_eq_right (by omega), List.drop_of_length_le (Nat.le_refl _), List.drop_of_length_le (show xs.length ≤ k by omega)]
    simp
theorem add_tup {a b : Addr} {xs ys : List V} (ha : H a = some (.tup xs)) (hb : H b = some (.tup ys)) (hl : xs.length + ys.length ≤ 1000) (q : ∀ p H', Ex H H' → H' p = some (.tup (xs ++ ys)) → Q (.ref p) H') : oAdd K (.ref a) (.ref b) H Q := by
  simp only [oAdd, ha, hb]
  refine ⟨by rw [sizeLine_eq]; omega, fun z => ?_, fun z1 z2 => ?_, fun z1 z2 p hp => q p _ (Ex.refl.new hp) upd_same⟩
  · exact q b H Ex.refl (by rw [hb, z]; rfl)
  · exact q a H Ex.refl (by rw [ha, z2, List.append_nil])
theorem tre_tup {k : Nat} {q : Addr} (t : Tre H k (.ref q)) : ∃ us, H q = some (.tup us) := by
  cases t with
  | sc h => exact h.elim
  | tup h => exact ⟨_, h⟩
theorem idx_lst {p : Addr} {xs : List V} {j : Nat} (h : H p = some (.lst xs)) (hj : j < xs.length) (q : Q xs[j] H) : oIx K (.ref p) (.int (j : Nat)) H Q := by
  rw [ix_lst (look_of_lst h) (v := xs[j]) (by rw [atI_nat]; simp [hj])]
  exact q
theorem slr_ {r : V → Option Int → Option Int → Hp → VK → Prop} {te : TE} {tl : TO} {σ : L2.St} (h : te σ H fun x H1 => tl σ H1 fun l H2 => r x l none H2 Q) : tSl r te tl tNoPart σ H Q := h
theorem tif_ {c : TT} {ta tb : TE} {σ : L2.St} (h : c σ H fun t H1 => if t = true then ta σ H1 Q else tb σ H1 Q) : tIf c ta tb σ H Q := h
theorem un_ {t : TE} {σ : L2.St} (h : t σ H fun x H1 => match x with | .int i => Q (.int (-i)) H1 | _ => False) : cUn t σ H Q := h
theorem idx_tup {p : Addr} {xs : List V} {j : Nat} {x : V} (h : H p = some (.tup xs)) (e : xs[j]? = some x) (q : Q x H) : oIx K (.ref p) (.int (j : Nat)) H Q := by
  rw [ix_tup (look_of_tup h) (v := x) (by rw [atI_nat]; exact e)]
  exact q
theorem add1 {i j : Int} (q : Q (.int (i + j)) H) : oAdd K (.int i) (.int j) H Q := q
end
end WR.L

set_option Elab.async false
set_option linter.all false
set_option maxRecDepth 100000
set_option maxHeartbeats 4000000
namespace WR.L
open PySem PySem.Spec PyProof.Rows L2
section
variable {K : PySem.W.Frag} {n : Nat} {H H0 H1 H2 H' : Hp} {Q : VK} {E : XK} {v w : V} {N : Nat} {m : String} {b : Addr}
/-! ## what may grow in a thing -/
theorem call1_ {sp : Sp} {arr : List V → List V → List V} {W : WX} {σ : L2.St} {i : Nat} {x : V} (hi : σ[i]? = some (some x)) (h : sp (arr [x] []) H Q (fun cls d H' => W cls d σ H')) : cCall sp 1 0 arr (tCons (cVar i) tNil) tNil W σ H Q :=
  call_ (cva_ hi (nil_ (nil_ ⟨rfl, rfl, h⟩)))
theorem not_ {t : TE} {σ : L2.St} {R : Bool → Hp → Prop} (h : t σ H fun x H1 => match oTru K x H1 with | some b => R (!b) H1 | none => False) : tNot (cTru K t) σ H R := by
  unfold tNot
  show t σ H fun x H1 => match oTru K x H1 with | some b => R (!b) H1 | none => False
  exact h
end
end WR.L

set_option Elab.async false
set_option linter.all false
set_option maxRecDepth 100000
set_option maxHeartbeats 4000000
namespace WR.L
open PySem PySem.Spec PyProof.Rows L2
section
variable {K : PySem.W.Frag} {n : Nat} {H H0 H1 H2 H' : Hp} {Q : VK} {E : XK} {v w : V} {N : Nat} {m : String} {b : Addr}
theorem gsub_ {to ti : TE} {s : TSet} {v : V} {σ : L2.St} {R : L2.St → Hp → Prop} (h : to σ H fun o H1 => ti σ H1 fun i H2 => s o i v H2 fun H3 => R σ H3) : gSub to ti s v σ H R := h
theorem set_lst {p : Addr} {xs : List V} {j : Nat} {v : V} {R : Hp → Prop} (h : H p = some (.lst xs)) (hj : j < xs.length) (q : R (upd H p (.lst (xs.set j v)))) : oSet (.ref p) (.int (j : Nat)) v H R := by
  simp only [oSet, h]
  rw [show ixN xs.length (j : Int) = some j from by unfold ixN; simp [hj]]
  exact q
theorem asgG_ {te : TE} {g : TG} {D : Ends} {σ : L2.St} (h : te σ H fun x H1 => g x σ H1 D.nx) : tAsg te g D σ H := h
theorem or_ {c d : TT} {σ : L2.St} {R : Bool → Hp → Prop} (h : c σ H fun t H1 => if t = true then R true H1 else d σ H1 R) : tOr c d σ H R := h
end
end WR.L

set_option Elab.async false
set_option linter.all false
set_option maxRecDepth 100000
set_option maxHeartbeats 4000000
namespace WR.L
open PySem PySem.Spec PyProof.Rows L2
section
variable {K : PySem.W.Frag} {n : Nat} {H H0 H1 H2 H' : Hp} {Q : VK} {E : XK} {v w : V} {N : Nat} {m : String} {b : Addr}
theorem gw_sc (h : okSc v) (g : Gw v H H') : Ex H H' := fun c o e => g.1 c o (fun z => by rw [z] at h; exact h) e
theorem idxv {p : Addr} {xs : List V} {j : Nat} {x : V} (h : H p = some (.lst xs)) (e : xs[j]? = some x) (q : Q x H) : oIx K (.ref p) (.int (j : Nat)) H Q := by
  rw [ix_lst (look_of_lst h) (v := x) (by rw [atI_nat]; exact e)]
  exact q
end
end WR.L

set_option Elab.async false
set_option linter.all false
set_option maxRecDepth 100000
set_option maxHeartbeats 4000000
namespace WR.L
open PySem PySem.Spec PyProof.Rows L2
open PySem.W (alike alikeAll dataLt keyToks keyToksAll)
/-! ## the order of cards, in plain Lean -/
structure CD where
  i : Int
  b : Str
  m : Option (List Int)
  deriving DecidableEq
def CD.ms (c : CD) : List Int := c.m.getD []
def CD.fl (c : CD) : Int := match c.m with
  | none => 0
  | some _ => 1
def rk (c : CD) : PyData := .tuple [.int c.i, .str c.b, .int c.fl, .tuple (c.ms.map PyData.int)]
def cLt (c d : CD) : Bool := dataLt (rk c) (rk d)
theorem alike_ints : ∀ xs ys : List Int, alikeAll (xs.map PyData.int) (ys.map PyData.int) = true
  | [], _ => by simp [alikeAll]
  | _ :: _, [] => by simp [alikeAll]
  | x :: xs, y :: ys => by simp only [List.map_cons, alikeAll, alike, alike_ints xs ys, Bool.and_self]
theorem rk_alike (c d : CD) : alike (rk c) (rk d) = true := by
  simp only [rk, alike, alikeAll, alike_ints, Bool.and_self]
theorem depth_ints : ∀ xs : List Int, PyData.depthAll (xs.map PyData.int) = 0
  | [] => rfl
  | x :: xs => by simp only [List.map_cons, PyData.depthAll, PyData.depth, depth_ints xs, Nat.max_self]
theorem rk_depth (c : CD) : (rk c).depth ≤ 60 := by
  simp only [rk, PyData.depth, PyData.depthAll, depth_ints]
  decide
theorem rk_nn (c : CD) : rk c ≠ .none := fun h => nomatch h
theorem toks_ints : ∀ {xs ys : List Int}, keyToksAll (xs.map PyData.int) = keyToksAll (ys.map PyData.int) → xs = ys
  | [], [], _ => rfl
  | [], y :: ys, h => by simp [keyToksAll] at h
  | x :: xs, [], h => by simp [keyToksAll] at h
  | x :: xs, y :: ys, h => by
    simp only [List.map_cons, keyToksAll, keyToks, List.cons_append, List.nil_append, List.cons.injEq, true_and] at h
    rw [toks_ints h.2, Sum.inl.inj h.1]
theorem app0 {a b : List Int} (h : keyToksAll (a.map PyData.int) ++ [Sum.inl 0] = keyToksAll (b.map PyData.int) ++ [Sum.inl 0]) : a = b := toks_ints (List.append_cancel_right h)
theorem rk_inj {c d : CD} (h : keyToks (rk c) = keyToks (rk d)) : c = d := by
  obtain ⟨i, b, m⟩ := c
  obtain ⟨i', b', m'⟩ := d
  simp only [rk, keyToks, keyToksAll, List.cons_append, List.nil_append, List.cons.injEq, true_and, CD.ms, CD.fl] at h
  obtain ⟨h1, h2, h3, h4⟩ := h
  have h1 := Sum.inl.inj h1
  have h2 := PySem.W.str_of_cps (Sum.inr.inj h2)
  have h3 := Sum.inl.inj h3
  have h4 := app0 h4
  subst h1 h2
  cases m <;> cases m' <;> simp at h3 h4 ⊢
  exact h4
theorem lt_irr (c : CD) : cLt c c = false := lex_irrefl _
theorem lt_trans {a b c : CD} (h1 : cLt a b = true) (h2 : cLt b c = true) : cLt a c = true := lex_trans _ _ _ h1 h2
theorem lt_neg {a b c : CD} (h : cLt a c = true) : cLt a b = true ∨ cLt b c = true := lex_negTrans _ _ _ h
theorem lt_tot {a b : CD} (h1 : cLt a b = false) (h2 : cLt b a = false) : a = b := rk_inj (lex_total _ _ h1 h2)
theorem lt_asym {a b : CD} (h1 : cLt a b = true) : cLt b a = false := by
  cases h : cLt b a with
  | false => rfl
  | true => have := lt_trans h1 h; rw [lt_irr] at this; cases this
def msLt (a b : List Int) : Bool := dataLt (.tuple (a.map PyData.int)) (.tuple (b.map PyData.int))
/-- how the law tells it -/
def aheadF (c d : CD) : Bool :=
  if c.i ≠ d.i then decide (c.i < d.i) else if c.b ≠ d.b then decide (c.b.cps.toList < d.b.cps.toList) else
  if c.m = none ∨ d.m = none then (decide (c.m = none) && !decide (d.m = none)) else msLt c.ms d.ms
theorem ahead_eq (c d : CD) : cLt c d = aheadF c d := by
  unfold cLt rk aheadF
  rw [PySem.W.dataLt_tuple, PySem.W.dataLt_cons rfl, PySem.W.dataLt_int]
  by_cases hi : c.i = d.i
  · rw [if_pos (by rw [hi]; simp [PyData.eqv]), if_neg (by simp [hi]), PySem.W.dataLt_cons rfl, PySem.W.dataLt_str]
    by_cases hb : c.b = d.b
    · rw [if_pos (by rw [hb]; simp [PyData.eqv]), if_neg (by simp [hb]), PySem.W.dataLt_cons rfl, PySem.W.dataLt_int]
      cases hc : c.m <;> cases hd : d.m <;> simp only [CD.fl, CD.ms, hc, hd]
      · rfl
      · rfl
      · rfl
      · rw [if_pos (show (PyData.int 1).eqv (PyData.int 1) = true by simp [PyData.eqv]), if_neg (by simp), PySem.W.dataLt_cons (by simp only [alike, alike_ints])]
        simp only [Option.getD_some]
        unfold msLt
        split
        · rename_i e
          have := (PySem.W.toks_eqv _ _ (by simp only [alike, alike_ints])).1 e
          unfold dataLt
          rw [this, lex_irrefl, lex_irrefl]
        · rfl
    · rw [if_neg (by simp [PyData.eqv, hb]), if_pos hb]
  · rw [if_neg (by simp [PyData.eqv, hi]), if_pos hi]
end WR.L

set_option Elab.async false
set_option linter.all false
set_option maxRecDepth 100000
set_option maxHeartbeats 4000000
namespace WR.L
open PySem PySem.Spec PyProof.Rows L2
/-! ## the greatest of some -/
section
variable {f : V → CD} {vs ws : List V} {a b : V}
def Top (f : V → CD) (vs : List V) (a : V) : Prop := a ∈ vs ∧ ∀ v ∈ vs, cLt (f a) (f v) = false
theorem top_eq (h : ∀ v, v ∈ vs ↔ v ∈ ws) (ha : Top f vs a) (hb : Top f ws b) : f a = f b := lt_tot (ha.2 _ ((h _).mpr hb.1)) (hb.2 _ ((h _).mp ha.1))
theorem arg_top (d : V → PyData) (hd : ∀ v, d v = rk (f v)) (xs : List V) : ∀ j k, k ≤ j → cLt (f (xs.getD (argBest (btV true d xs) j) .non)) (f (xs.getD k .non)) = false
  | 0, k, h => by
    obtain rfl : k = 0 := Nat.le_zero.mp h
    exact lt_irr _
  | j + 1, k, h => by
    have ih := arg_top d hd xs j
    cases hb : btV true d xs (j + 1) (argBest (btV true d xs) j) with
    | true =>
      simp only [argBest, hb, if_true]
      have hb' : cLt (f (xs.getD (argBest (btV true d xs) j) .non)) (f (xs.getD (j + 1) .non)) = true := by
        unfold btV at hb
        simp only [if_true] at hb
        rw [hd, hd] at hb
        exact hb
      rcases Nat.lt_or_ge j k with hk | hk
      · obtain rfl : k = j + 1 := by omega
        exact lt_irr _
      · cases hz : cLt (f (xs.getD (j + 1) .non)) (f (xs.getD k .non)) with
        | false => rfl
        | true =>
          have := ih k hk
          rw [lt_trans hb' hz] at this
          cases this
    | false =>
      simp only [argBest, hb, Bool.false_eq_true, if_false]
      rcases Nat.lt_or_ge j k with hk | hk
      · obtain rfl : k = j + 1 := by omega
        unfold btV at hb
        simp only [if_true] at hb
        rw [hd, hd] at hb
        exact hb
      · exact ih k hk
theorem best_top (hx : vs ≠ []) : Top f vs (bestV true (fun v => rk (f v)) vs) := by
  have hl := List.length_pos_iff.mpr hx
  have hb : argBest (btV true (fun v => rk (f v)) vs) (vs.length - 1) < vs.length := Nat.lt_of_le_of_lt (argBest_le _ _) (by omega)
  refine ⟨(getD_mem hb).2, fun v hv => ?_⟩
  obtain ⟨k, hk, e⟩ := List.getElem_of_mem hv
  have := arg_top (f := f) (fun v => rk (f v)) (fun _ => rfl) vs (vs.length - 1) k (by omega)
  rw [show vs.getD k .non = v by simp [hk, e]] at this
  exact this
/-- going on, the greater one is kept -/
theorem top_snoc (ha : Top f vs a) : Top f (vs ++ [b]) (if cLt (f a) (f b) = true then b else a) := by
  cases h : cLt (f a) (f b) with
  | true =>
    rw [if_pos rfl]
    refine ⟨by simp, fun v hv => ?_⟩
    rcases List.mem_append.mp hv with hv | hv
    · cases hz : cLt (f b) (f v) with
      | false => rfl
      | true => have := ha.2 v hv; rw [lt_trans h hz] at this; cases this
    · rw [List.mem_singleton.mp hv]; exact lt_irr _
  | false =>
    rw [if_neg (by decide)]
    refine ⟨List.mem_append_left _ ha.1, fun v hv => ?_⟩
    rcases List.mem_append.mp hv with hv | hv
    · exact ha.2 v hv
    · rw [List.mem_singleton.mp hv]; exact h
end
/-! ## cards -/
def MvC (H : Hp) (mv : V) : Option (List Int) → Prop
  | none => mv = .non
  | some ms => ∃ q, mv = .ref q ∧ H q = some (.tup (ms.map V.int))
def OkM : Option (List Int) → Prop
  | none => True
  | some ms => ms.length ≤ 8 ∧ ∀ x ∈ ms, mkV (.int x) = true
def CdH (H : Hp) (v : V) (ks : Str) (c : CD) : Prop := ∃ p mv, v = .ref p ∧ H p = some (.tup [.str ks, .int c.i, .str c.b, mv]) ∧ MvC H mv c.m
def OkC (ks : Str) (c : CD) : Prop := isNm ks = true ∧ (1 ≤ c.i ∧ c.i ≤ 999999) ∧ isNm c.b = true ∧ OkM c.m
section
variable {K : PySem.W.Frag} {n : Nat} {H H' : Hp} {Q : VK} {E : XK} {v w mv : V} {N : Nat} {ks ks' : Str} {c d : CD} {m : Option (List Int)}
theorem mkV_int {x : V} (h : mkV x = true) : ∃ i, x = .int i := by
  cases x <;> first | exact ⟨_, rfl⟩ | (simp [mkV] at h)
theorem mkV_b {i : Int} (h : mkV (.int i) = true) : 0 ≤ i ∧ i ≤ 64250 := by
  have e : mkV (V.int i) = (decide (0 ≤ i) && (decide (i ≤ 64250) && decide (i % 256 < 251))) := rfl
  rw [e] at h
  simp only [Bool.and_eq_true, decide_eq_true_eq] at h
  exact ⟨h.1, h.2.1⟩
theorem MvC.tp (x : Tp H H') (h : MvC H mv m) : MvC H' mv m := by
  cases m with
  | none => exact h
  | some ms => obtain ⟨q, e, hq⟩ := h; exact ⟨q, e, x _ _ hq⟩
theorem CdH.tp (x : Tp H H') (h : CdH H v ks c) : CdH H' v ks c := by
  obtain ⟨p, mv, e, hp, hm⟩ := h
  exact ⟨p, mv, e, x _ _ hp, hm.tp x⟩
theorem CdH.ex (x : Ex H H') (h : CdH H v ks c) : CdH H' v ks c := h.tp x.tp
theorem all_ints : ∀ {ms : List V}, (∀ z ∈ ms, ∃ i, z = V.int i) → ∃ is : List Int, ms = is.map V.int
  | [], _ => ⟨[], rfl⟩
  | z :: ms, h => by
    obtain ⟨i, rfl⟩ := h z (by simp)
    obtain ⟨is, rfl⟩ := all_ints (ms := ms) fun y hy => h y (by simp [hy])
    exact ⟨i :: is, rfl⟩
theorem cd_of (h : Crd H v) : ∃ ks c, CdH H v ks c ∧ OkC ks c := by
  obtain ⟨p, k, nu, b, mv, rfl, hp, hk, hn, hb, hm⟩ := h
  obtain ⟨ks, rfl, hk⟩ := nmV_str (H := H) hk
  obtain ⟨bs, rfl, hb⟩ := nmV_str (H := H) hb
  obtain ⟨i, rfl, hi⟩ := whole_int hn
  rcases hm with rfl | ⟨q, ms, rfl, hq, hl, ha⟩
  · exact ⟨ks, ⟨i, bs, none⟩, ⟨p, _, rfl, hp, rfl⟩, hk, hi, hb, trivial⟩
  · have ha := List.all_eq_true.mp ha
    obtain ⟨is, rfl⟩ := all_ints fun z hz => mkV_int (ha z hz)
    refine ⟨ks, ⟨i, bs, some is⟩, ⟨p, _, rfl, hp, q, rfl, hq⟩, hk, hi, hb, by simpa using hl, fun x hx => ha _ (List.mem_map_of_mem hx)⟩
theorem crd_of (h : CdH H v ks c) (o : OkC ks c) : Crd H v := by
  obtain ⟨p, mv, rfl, hp, hm⟩ := h
  obtain ⟨i, b, m⟩ := c
  obtain ⟨o1, o2, o3, o4⟩ := o
  refine ⟨p, _, _, _, _, rfl, hp, o1, by show (decide (1 ≤ i) && decide (i ≤ 999999)) = true; simp only [Bool.and_eq_true, decide_eq_true_eq]; exact o2, o3, ?_⟩
  cases m with
  | none => exact .inl hm
  | some ms =>
    obtain ⟨q, rfl, hq⟩ := hm
    refine .inr ⟨q, _, rfl, hq, by simpa using o4.1, List.all_eq_true.mpr fun z hz => ?_⟩
    obtain ⟨i, hi, rfl⟩ := List.mem_map.mp hz
    exact o4.2 i hi
theorem int_inj : ∀ {a b : List Int}, a.map V.int = b.map V.int → a = b
  | [], [], _ => rfl
  | x :: a, y :: b, h => by
    simp only [List.map_cons, List.cons.injEq, V.int.injEq] at h
    rw [h.1, int_inj h.2]
  | [], _ :: _, h => nomatch h
  | _ :: _, [], h => nomatch h
theorem cdh_inj (h : CdH H v ks c) (h2 : CdH H v ks' d) : ks = ks' ∧ c = d := by
  obtain ⟨p, mv, rfl, hp, hm⟩ := h
  obtain ⟨p2, mv2, e, hp2, hm2⟩ := h2
  cases e
  rw [hp] at hp2
  cases c; cases d
  simp only [Option.some.injEq, HO.tup.injEq, List.cons.injEq, V.str.injEq, V.int.injEq, and_true] at hp2
  obtain ⟨rfl, rfl, rfl, rfl⟩ := hp2
  refine ⟨rfl, ?_⟩
  rename_i m m'
  cases m with
  | none =>
    cases m' with
    | none => rfl
    | some ms => obtain ⟨q, e, _⟩ := hm2; rw [show mv = V.non from hm] at e; cases e
  | some ms =>
    obtain ⟨q, rfl, hq⟩ := hm
    cases m' with
    | none => cases (hm2 : V.ref q = V.non)
    | some ms' =>
      obtain ⟨q2, e, hq2⟩ := hm2
      cases e
      rw [hq] at hq2
      simp only [Option.some.injEq, HO.tup.injEq] at hq2
      rw [int_inj hq2]
theorem MvC.tre (h : MvC H mv m) (o : OkM m) : Tre H 1 mv := by
  cases m with
  | none => rw [show mv = V.non from h]; exact .sc trivial
  | some ms =>
    obtain ⟨q, rfl, hq⟩ := h
    refine .tup hq (by have := o.1; simp; omega) fun z hz => ?_
    obtain ⟨i, hi, rfl⟩ := List.mem_map.mp hz
    have := mkV_b (o.2 i hi)
    exact .sc (by show i.natAbs < 10 ^ 40; omega)
theorem CdH.tre (h : CdH H v ks c) (o : OkC ks c) : Tre H 2 v := by
  obtain ⟨p, mv, rfl, hp, hm⟩ := h
  refine .tup hp (by simp) fun z hz => ?_
  simp only [List.mem_cons, List.not_mem_nil, or_false] at hz
  obtain ⟨o1, o2, o3, o4⟩ := o
  rcases hz with rfl | rfl | rfl | rfl
  · exact .sc (isNm_sc o1)
  · exact .sc (by show c.i.natAbs < 10 ^ 40; omega)
  · exact .sc (isNm_sc o3)
  · exact hm.tre o4
/-! ## what repr tells of a card -/
def mD : Option (List Int) → PyData
  | none => .none
  | some ms => .tuple (ms.map PyData.int)
def cdD (ks : Str) (c : CD) : PyData := .tuple [.str ks, .int c.i, .str c.b, mD c.m]
theorem mv_dx {d : PyData} (h : MvC H mv m) (dx : Dx K H mv d) : d = mD m := by
  cases m with
  | none => rw [show mv = V.non from h] at dx; cases dx; rfl
  | some ms =>
    obtain ⟨q, rfl, hq⟩ := h
    cases dx with
    | lst e => rw [look_of_tup hq] at e; cases e
    | tup e ha =>
      rw [look_of_tup hq] at e; cases e
      rw [dxInts ha]; rfl
    | dic e =>
      rcases e with e | ⟨o, e⟩ <;> rw [hq] at e <;> cases e
theorem CdH.dx {d : PyData} (h : CdH H v ks c) (dx : Dx K H v d) : d = cdD ks c := by
  obtain ⟨p, mv, rfl, hp, hm⟩ := h
  cases dx with
  | lst e => rw [look_of_tup hp] at e; cases e
  | tup e ha =>
    rw [look_of_tup hp] at e; cases e
    cases ha with
    | cons a1 a =>
      cases a with
      | cons a2 a =>
        cases a with
        | cons a3 a =>
          cases a with
          | cons a4 a =>
            cases a
            cases a1; cases a2; cases a3
            rw [mv_dx hm a4]
            rfl
  | dic e =>
    rcases e with e | ⟨o, e⟩ <;> rw [hp] at e <;> cases e
theorem cd_dx (h : CdH H v ks c) (o : OkC ks c) : Dx K H v (cdD ks c) ∧ Shw (cdD ks c) (bd 2) 2 := by
  obtain ⟨d, h1, h2⟩ := (h.tre o).dx (K := K)
  have e := h.dx h1
  subst e
  exact ⟨h1, h2⟩
theorem cd_repr (h : CdH H v ks c) (o : OkC ks c) (q : Q (.str (cdD ks c).shown) H) : bRepr K [v] H Q := by
  obtain ⟨h1, h2⟩ := cd_dx (K := K) h o
  exact repr_d h1 h2 (by decide) (by decide) q
end
end WR.L

set_option Elab.async false
set_option linter.all false
set_option maxRecDepth 100000
set_option maxHeartbeats 4000000
namespace WR.L
open PySem PySem.Spec PyProof.Rows L2
open PySem.W (alike dataLt)
section
variable {K : PySem.W.Frag} {n : Nat} {H H' : Hp} {Q : VK} {E : XK} {v w mv : V} {N M : Nat} {ks ks' : Str} {c d : CD}
theorem Rf.ex {C : Str} (x : Ex H H') (r : Rf K H C v E) : Rf K H' C v E := fun y H1 e => r y H1 (x.trans e)
theorem idx0 {p : Addr} {a b c d : V} (h : H p = some (.tup [a, b, c, d])) (q : Q a H) : oIx K (.ref p) (.int 0) H Q := idx_tup (j := 0) h rfl q
theorem idx1 {p : Addr} {a b c d : V} (h : H p = some (.tup [a, b, c, d])) (q : Q b H) : oIx K (.ref p) (.int 1) H Q := idx_tup (j := 1) h rfl q
theorem idx2 {p : Addr} {a b c d : V} (h : H p = some (.tup [a, b, c, d])) (q : Q c H) : oIx K (.ref p) (.int 2) H Q := idx_tup (j := 2) h rfl q
theorem idx3 {p : Addr} {a b c d : V} (h : H p = some (.tup [a, b, c, d])) (q : Q d H) : oIx K (.ref p) (.int 3) H Q := idx_tup (j := 3) h rfl q
theorem dpInts : ∀ is : List Int, DpAll K H (is.map V.int) (is.map PyData.int)
  | [] => .nil
  | i :: is => .cons (.int i) (dpInts is)
theorem dpTup {p : Addr} {xs : List V} {ds : List PyData} (h : H p = some (.tup xs)) (a : DpAll K H xs ds) : Dp K H (.ref p) (.tuple ds) := .tup (look_tup (look_of_tup h)) a
theorem and_ {ta tb : TE} {σ : L2.St} (h : ta σ H fun x H1 => match oTru K x H1 with | some true => tb σ H1 Q | some false => Q x H1 | none => False) : cAnd K ta tb σ H Q := h
theorem lt_dp {x y : V} {a b : PyData} (hx : Dp K H x a) (hy : Dp K H y b) (al : alike a b = true) (nn : a ≠ .none) (dp : a.depth ≤ 60) (ha : ∃ p, x = .ref p) (q : Q (.bl (dataLt a b)) H) : oLtK K x y H Q := by
  obtain ⟨p, rfl⟩ := ha
  exact ⟨a, b, hx, hy, al, nn, dp, q⟩
theorem dp_ref {x : V} {ds : List PyData} (h : Dp K H x (.tuple ds)) : ∃ p, x = .ref p := by
  cases h; exact ⟨_, rfl⟩
end
end WR.L

set_option Elab.async false
set_option linter.all false
set_option maxRecDepth 100000
set_option maxHeartbeats 4000000
namespace WR.L
open PySem PySem.Spec PyProof.Rows L2
section
variable {K : PySem.W.Frag} {n : Nat} {H H' : Hp} {Q : VK} {E : XK} {v w mv : V} {N M : Nat} {ks ks' : Str} {c d : CD} {m : String} {xs : List V}
/-! ## loops over lists and tuples -/
theorem for_ {te : TE} {g : TG} {tb : TS} {D : Ends} {σ : L2.St} (h : te σ H fun x H1 => cIter K (frzE (tC x)) σ H1 fun J H2 => ∃ n, lp J g tb D n 0 σ H2) : orL (cFor (cIter K (frzE te)) g tb) D σ H := .inl h
theorem cit_lst {p : Addr} {σ : L2.St} {R : It → Hp → Prop} (h : H p = some (.lst xs)) (q : R (Itl K p) H) : cIter K (frzE (tC (.ref p))) σ H R := by
  simp only [cIter, frzE, tC, h, look_of_lst (K := K) h]; exact q
theorem cit_tup {p : Addr} {σ : L2.St} {R : It → Hp → Prop} (h : H p = some (.tup xs)) (q : R (Itt K p) H) : cIter K (frzE (tC (.ref p))) σ H R := by
  simp only [cIter, frzE, tC, h, look_of_tup (K := K) h]; exact q
theorem itt_yld {l : Addr} {i : Nat} {x : V} (e : H l = some (.tup xs)) (h : (Itt K l).yld i H x H') : H' = H ∧ xs[i]? = some x := ⟨h.1, h.2 xs (look_tup (look_of_tup e))⟩
theorem itt_go {l : Addr} {i : Nat} (e : H l = some (.tup xs)) (hi : i < xs.length) : (Itt K l).go i H := ⟨xs, xs[i], look_tup (look_of_tup e), by simp [hi]⟩
theorem itt_stop {l : Addr} {i : Nat} (e : H l = some (.tup xs)) (hi : xs.length ≤ i) : (Itt K l).stop i H := ⟨xs, look_tup (look_of_tup e), hi⟩
/-! ## is_list -/
theorem kit_lt : ∀ n ∈ kds, kitBs n ["list", "tuple"] = some (decide (n = "list") || decide (n = "tuple")) := by
  intro n hn
  simp only [kds, List.mem_cons, List.not_mem_nil, or_false] at hn
  rcases hn with rfl | rfl | rfl | rfl | rfl | rfl | rfl <;> kernel_rfl
theorem isi_lt {p : Addr} (k : Kd H v m) (hp : H p = some (.tup [.ty "list", .ty "tuple"])) (h : Q (.bl (decide (m = "list") || decide (m = "tuple"))) H) : bIsi K [v, .ref p] H Q := by
  obtain ⟨ht, hm⟩ := k.ty (K := K)
  simp only [bIsi, hp, ht, allTy, Option.map_some, kit_lt m hm]
  exact h
def Sq (H : Hp) (v : V) (xs : List V) : Prop := ∃ p, v = .ref p ∧ (H p = some (.lst xs) ∨ H p = some (.tup xs))
theorem Sq.ex (x : Ex H H') (h : Sq H v xs) : Sq H' v xs := by
  obtain ⟨p, e, h⟩ := h
  exact ⟨p, e, h.imp (x _ _) (x _ _)⟩
theorem Sq.len {S : Str → Sp} (h : Sq H v xs) (q : Q (.int xs.length) H) : bLenG (gg K S) [v] H Q := by
  obtain ⟨p, rfl, h | h⟩ := h
  · rw [len_lst rfl (look_of_lst h)]; exact q
  · rw [len_tup rfl (look_of_tup h)]; exact q
theorem Sq.kd (h : Sq H v xs) : ∃ m, Kd H v m ∧ (decide (m = "list") || decide (m = "tuple")) = true := by
  obtain ⟨p, rfl, h | h⟩ := h
  · exact ⟨_, .lst h, by decide⟩
  · exact ⟨_, .tup h, by decide⟩
theorem s_is_list_sq {most : Int} (h : Sq H v xs) (q : ∀ H', Ex H H' → Q (.bl (decide ((xs.length : Int) ≤ most))) H') : SP K (n+1) "is_list" [v, .int most] H Q E := by
  refine o_is_list ?_
  unfold r_is_list
  refine ret_ (and_ (cb_ (cva_ rfl (cons_ (tup_ (con_ (con_ (nil_ ⟨by rw [sizeLine_eq]; simp, fun p hp => nil_ ?_⟩))))))))
  obtain ⟨m, k, hk⟩ := h.kd
  have e1 : Ex H (upd H p (.tup [.ty "list", .ty "tuple"])) := Ex.refl.new hp
  refine isi_lt (k.ex e1) upd_same ?_
  rw [hk]
  simp only [oTru]
  exact op_ (cb_ (cva_ rfl (nil_ ((h.ex e1).len (var_ rfl (q _ e1))))))
theorem s_is_list_no {most : Int} (k : Kd H v m) (hm : (decide (m = "list") || decide (m = "tuple")) = false) (q : ∀ H', Ex H H' → Q (.bl false) H') : SP K (n+1) "is_list" [v, .int most] H Q E := by
  refine o_is_list ?_
  unfold r_is_list
  refine ret_ (and_ (cb_ (cva_ rfl (cons_ (tup_ (con_ (con_ (nil_ ⟨by rw [sizeLine_eq]; simp, fun p hp => nil_ ?_⟩))))))))
  have e1 : Ex H (upd H p (.tup [.ty "list", .ty "tuple"])) := Ex.refl.new hp
  refine isi_lt (k.ex e1) upd_same ?_
  rw [hm]
  exact q _ e1
/-! ## greatest -/
def Good (H : Hp) (ks : Str) (f : V → CD) (xs : List V) : Prop := ∀ y ∈ xs, CdH H y ks (f y) ∧ OkC ks (f y)
theorem Good.ex {f : V → CD} (x : Ex H H') (h : Good H ks f xs) : Good H' ks f xs := fun y hy => ⟨(h y hy).1.ex x, (h y hy).2⟩
theorem pick_f (h : ∀ y ∈ xs, ∃ d, CdH H y ks d ∧ OkC ks d) : ∃ f, Good H ks f xs := by
  classical
  refine ⟨fun y => if hy : y ∈ xs then Classical.choose (h y hy) else ⟨0, "", none⟩, fun y hy => ?_⟩
  simp only [dif_pos hy]
  exact Classical.choose_spec (h y hy)
theorem exr_ex : ExR Ex := ⟨fun _ => Ex.refl, fun a b => a.trans b, fun a b o h _ => a b o h⟩
theorem var_mono {i : Nat} {σ : L2.St} {Q1 Q2 : VK} (q : ∀ x H, Q1 x H → Q2 x H) (h : cVar i σ H Q1) : cVar i σ H Q2 := by
  unfold cVar at h ⊢
  split
  · rename_i e; rw [e] at h; exact q _ _ h
  · rename_i e
    split at h
    · rename_i e2; exact (e _ e2).elim
    · exact h.elim
theorem CdH.th (h : CdH H v ks c) (o : OkC ks c) : Th H 20 v := .tt ((h.tre o).up (by decide))
end
end WR.L

set_option Elab.async false
set_option linter.all false
set_option maxRecDepth 100000
set_option maxHeartbeats 400000
namespace WR.L
open PySem PySem.Spec PyProof.Rows L2
section
variable {K : PySem.W.Frag} {n : Nat} {H H' : Hp} {Q : VK} {E : XK} {v w z : V} {N M : Nat} {ks ks' : Str} {c d : CD} {m : String} {xs : List V} {C : Str}
theorem Th.up {M : Nat} (h : Th H N v) (l : N ≤ M) : Th H M v := by
  cases h with
  | tt h => exact .tt h
  | lst h hl ha => exact .lst h (by omega) ha
  | dic h hl ha => exact .dic h (by omega) ha
  | mix h hl ha => exact .mix h hl ha
end
end WR.L

set_option Elab.async false
set_option linter.all false
set_option maxRecDepth 100000
set_option maxHeartbeats 400000
namespace WR.L
open PySem PySem.Spec PyProof.Rows L2
section
variable {K : PySem.W.Frag} {n : Nat} {H H' : Hp} {Q : VK} {E : XK} {v w z : V} {N M : Nat} {ks ks' : Str} {c d : CD} {m : String} {xs : List V} {C wd : Str}
theorem eqH_sc {x y : V} (h : scal x y = true) (q : Q (.bl (decide (x = y))) H) : oEqH K x y H Q := .inl (.inl ⟨h, q⟩)
theorem found_H {S : Str → Sp} {i : Nat} {a x c : Addr} {σ : L2.St} {te : TE} {R : VK} (h5 : σ[i]? = some (some (.ref a))) (hc : ∃ y ∈ (gg K S).xcs, y.f = "found" ∧ c = y.C) (hx : H x = some (.xd [("found", v)])) (t : ∃ s : Str, ∀ P : VK, P (.str s) H → bRepr K [v] H P) (hte : ∀ P : VK, P v H → te σ H P) (q : R (.bl true) H) :
    (tOp (oEqH K) (tCB (bRepr K) (tCons (cXf (gg K S) i a (.ref c) (some x) "found") tNil)) (tCB (bRepr K) (tCons te tNil))) σ H R := by
  obtain ⟨y, hy, hf, rfl⟩ := hc
  obtain ⟨s, hs⟩ := t
  simp only [tOp, tCB]
  refine cons_ ?_
  refine ⟨h5, y, hy, hf, rfl, x, [("found", v)], v, rfl, hx, rfl, ?_⟩
  simp only [tNil]
  refine hs _ ?_
  refine cons_ (hte _ ?_)
  simp only [tNil]
  refine hs _ (eqH_sc rfl ?_)
  rw [decide_eq_true rfl]
  exact q
/-- word == w and repr(e.found) == repr(thing) -/
theorem word_end {S : Str → Sp} {D : Ends} {σ : L2.St} {a x c : Addr} {i j k : Nat} (hj : σ[j]? = some (some (.str wd))) (h5 : σ[i]? = some (some (.ref a))) (hk : σ[k]? = some (some v)) (hc : ∃ y ∈ (gg K S).xcs, y.f = "found" ∧ c = y.C) (hx : H x = some (.xd [("found", v)])) (t : ∃ s : Str, ∀ P : VK, P (.str s) H → bRepr K [v] H P) (q : D.rt (.bl true) H) :
    (tRet (cAnd K (tOp (oEqH K) (cVar j) (tC (.str wd))) (tOp (oEqH K) (tCB (bRepr K) (tCons (cXf (gg K S) i a (.ref c) (some x) "found") tNil)) (tCB (bRepr K) (tCons (cVar k) tNil))))) D σ H := by
  refine ret_ (and_ (op_ (var_ hj (const_ (eqH_sc rfl ?_)))))
  rw [decide_eq_true rfl]
  exact found_H h5 hc hx t (fun P q => var_ hk q) q
theorem Th.ne_xd {x : Addr} {fs : List (Str × V)} (t : Th H N v) (hx : H x = some (.xd fs)) : v ≠ .ref x := fun z => by
  obtain ⟨m, k⟩ := t.kd
  rw [z] at k
  cases k with
  | lst q => rw [hx] at q; cases q
  | tup q => rw [hx] at q; cases q
  | dK q => rw [hx] at q; cases q
end
end WR.L

set_option Elab.async false
set_option linter.all false
set_option maxRecDepth 100000
set_option maxHeartbeats 400000
namespace WR.L
open PySem PySem.Spec PyProof.Rows L2
section
variable {K : PySem.W.Frag} {n : Nat} {H H' : Hp} {Q : VK} {E : XK} {v w z : V} {N M : Nat} {ks ks' : Str} {c d : CD} {m : String} {xs : List V} {b : Addr} {σ : L2.St} {D : Ends} {S : Str → Sp}
/-! ## data apart -/
theorem shaped_ints (is : List Int) : SeqAt.shaped (.tuple (is.map PyData.int)) = true := by
  have h1 : ∀ is : List Int, PyData.canLayAll0 (is.map PyData.int) = true := fun is => by
    induction is with
    | nil => rfl
    | cons a r ih => simp only [List.map_cons, PyData.canLayAll0, ih, Bool.and_true]; rfl
  unfold SeqAt.shaped
  simp only [PyData.canLay0, PyData.depth, h1, depth_ints, Bool.true_and]
  rfl
theorem ne_dp {x y : V} {d e : PyData} (hx : insOf H x = none) (dx : Dp K H x d) (dy : Dp K H y e) (sd : SeqAt.shaped d = true) (se : SeqAt.shaped e = true) (q : Q (.bl (!PyData.eqv d e)) H) : oNeG (gg K S) x y H Q := by
  unfold oNeG
  rw [hx]
  exact .inl (.inr ⟨d, e, dx, dy, sd, se, q⟩)
theorem ne_unit {a p : Addr} {is : List Int} (ha : H a = some (.tup (is.map V.int))) (hp : H p = some (.tup [])) (q : Q (.bl (!is.isEmpty)) H) : oNeG (gg K S) (.ref a) (.ref p) H Q := by
  refine ne_dp (ins_tup (look_of_tup (K := K) ha)) (dpTup ha (dpInts is)) (dpTup (xs := []) hp .nil) (shaped_ints is) (shaped_ints []) ?_
  have : PyData.eqv (.tuple (is.map PyData.int)) (.tuple []) = is.isEmpty := by cases is <;> rfl
  rw [this]; exact q
/-! ## ifs by a number -/
theorem if_no {j : Nat} {w k : Int} {T : TS} (hj : σ[j]? = some (some (.int w))) (ne : w ≠ k) (q : D.nx σ H) : tIfS (cTest (tOp (oEqG (gg K S)) (cVar j) (tC (.int k)))) T tNext D σ H := by
  refine ifS_ fun A B hA hB => test_ (op_ (var_ hj (const_ (eq_scal rfl rfl rfl ?_))))
  exact iff_f (by simp [ne]) (hB _ (next_ q))
theorem if_yes {j : Nat} {w k : Int} {T : TS} (hj : σ[j]? = some (some (.int w))) (e : w = k) (q : T D σ H) : tIfS (cTest (tOp (oEqG (gg K S)) (cVar j) (tC (.int k)))) T tNext D σ H := by
  refine ifS_ fun A B hA hB => test_ (op_ (var_ hj (const_ (eq_scal rfl rfl rfl ?_))))
  exact iff_t (by simp [e]) (hA _ q)
theorem and2_ {c d : L2.TT} {R : Bool → Hp → Prop} (h : c σ H fun t H1 => if t = true then d σ H1 R else R false H1) : tAnd c d σ H R := h
theorem mks_ok {s : Str} (h : okTx s = true) : OkM (some (mks s)) := by
  refine ⟨by simp [mks]; exact pcs_len h, fun x hx => ?_⟩
  obtain ⟨p, _, rfl⟩ := List.mem_map.mp hx
  have := markF_b p
  show (decide (0 ≤ markF p) && (decide (markF p ≤ 64250) && decide (markF p % 256 < 251))) = true
  simp only [Bool.and_eq_true, decide_eq_true_eq]
  exact ⟨this.1, this.2.1, this.2.2⟩
end
end WR.L

set_option Elab.async false
set_option linter.all false
set_option maxRecDepth 100000
set_option maxHeartbeats 400000
namespace WR.L
open PySem PySem.Spec PyProof.Rows L2
section
variable {K : PySem.W.Frag} {n : Nat} {H H' : Hp} {Q : VK} {E : XK} {v w z : V} {N M : Nat} {ks ks' : Str} {c d : CD} {m : String} {xs : List V} {b : Addr} {σ : L2.St} {D : Ends} {S : Str → Sp}
theorem app_ {i : Nat} {L : Addr} {t : TA} {W : WX} (hi : σ[i]? = some (some (.ref L))) (hL : H L = some (.lst xs)) (h : t σ H fun vs H1 => mAppend (.ref L) vs H1 fun _ H2 => D.nx σ H2) : tDrop (mC (gg K S) "append" 1 0 [] (cVar i) t tNil W) D σ H := by
  refine drop_ (mC_blt ?_ fun P P' hh q => mono_var hh q)
  exact var_ hi ⟨ins_lst (look_of_lst (K := K) hL), "list", tyB_lst (look_of_lst hL), _, b_append, h⟩
theorem mApp {L : Addr} {y : V} (h : H L = some (.lst xs)) (l : xs.length < sizeLine) (q : Q .non (upd H L (.lst (xs ++ [y])))) : mAppend (.ref L) [y] H Q := by
  simp only [mAppend, h]; exact ⟨l, q⟩
theorem ins_ {i : Nat} {L : Addr} {t : TA} {W : WX} (hi : σ[i]? = some (some (.ref L))) (hL : H L = some (.lst xs)) (h : t σ H fun vs H1 => mInsert (.ref L) vs H1 fun _ H2 => D.nx σ H2) : tDrop (mC (gg K S) "insert" 2 0 [] (cVar i) t tNil W) D σ H := by
  refine drop_ (mC_blt ?_ fun P P' hh q => mono_var hh q)
  exact var_ hi ⟨ins_lst (look_of_lst (K := K) hL), "list", tyB_lst (look_of_lst hL), _, (by kernel_rfl : (bf K "insert").find? (fun b => b.T == "list") = some ⟨"list", "insert", "list.insert", mInsert⟩), h⟩
theorem mIns {L : Addr} {y : V} {j : Nat} (h : H L = some (.lst xs)) (l : xs.length < sizeLine) (hj : j < 1000) (q : Q .non (upd H L (.lst (xs.take j ++ [y] ++ xs.drop j)))) : mInsert (.ref L) [.int (j : Nat), y] H Q := by
  simp only [mInsert, h]
  exact ⟨l, by omega, by omega, q⟩
theorem ixl {p : Addr} {r : Int} (h : H p = some (.lst xs)) (r0 : 0 ≤ r) (r1 : r < xs.length) (q : ∀ x ∈ xs, Q x H) : oIx K (.ref p) (.int r) H Q := by
  obtain ⟨j, rfl⟩ := Int.eq_ofNat_of_zero_le r0
  exact idx_lst h (by omega) (q _ (List.getElem_mem _))
theorem lenL {p : Addr} (h : H p = some (.lst xs)) (q : Q (.int xs.length) H) : bLenG (gg K S) [.ref p] H Q := by
  rw [len_lst rfl (look_of_lst h)]; exact q
theorem lenT {p : Addr} (h : H p = some (.tup xs)) (q : Q (.int xs.length) H) : bLenG (gg K S) [.ref p] H Q := by
  rw [len_tup rfl (look_of_tup h)]; exact q
theorem fr_none {p : Addr} (f : Fr [b] H H') (hb : Bx H b N) (h : H' p = none) (hb' : Bx H' b M) : H p = none := by
  cases e : H p with
  | none => rfl
  | some o =>
    have ne : p ≠ b := bx_ne hb' h
    rw [fr_at f ne e] at h; cases h
theorem fr_put {L : Addr} {o : HO} (f : Fr [b] H H') (h : H L = none) : Fr [b] H (upd H' L o) := fun a u na e => by
  by_cases z : a = L
  · subst z; rw [h] at e; cases e
  · rw [upd_ne z]; exact f a u na e
theorem bx_put {L : Addr} {o : HO} (h : Bx H b N) (ne : L ≠ b) : Bx (upd H L o) b N := by
  obtain ⟨a1, a2, a3, e, r⟩ := h
  exact ⟨a1, a2, a3, by rw [upd_ne ne.symm]; exact e, r⟩
theorem tp_put {L : Addr} {o : HO} (h : ∀ us, H L ≠ some (.tup us)) : Tp H (upd H L o) := fun t us e => by
  by_cases z : t = L
  · subst z; exact (h us e).elim
  · rw [upd_ne z]; exact e
def IsC (H : Hp) (ks : Str) (v : V) : Prop := ∃ c, CdH H v ks c ∧ OkC ks c
theorem IsC.tp (x : Tp H H') (h : IsC H ks v) : IsC H' ks v := by
  obtain ⟨c, h1, h2⟩ := h
  exact ⟨c, h1.tp x, h2⟩
end
end WR.L

set_option Elab.async false
set_option linter.all false
set_option maxRecDepth 100000
set_option maxHeartbeats 400000
namespace WR.L
open PySem PySem.Spec PyProof.Rows L2
section
variable {K : PySem.W.Frag} {n : Nat} {H H' : Hp} {Q : VK} {E : XK} {v : V} {m : String} {σ : L2.St} {S : Str → Sp}
/-! ## pieces -/
def pcV (l : Bool) : V → Bool
  | .str s => okTx s && (if l = true then decide (1 ≤ s.length) && decide (s.length ≤ 8) else decide (s.length = 8))
  | _ => false
theorem lenS {s : Str} (h : s.length ≤ 1000) (q : Q (.int s.length) H) : bLenG (gg K S) [.str s] H Q := by
  rw [len_str]
  exact ⟨Nat.le_of_lt (small1000 h), q⟩
theorem s_is_piece {l : Bool} (k : Kd H v m) (hs : okSc v ∨ m ≠ "str") (h : ∀ H', Ex H H' → Q (.bl (pcV l v)) H') : SP K (n+2) "is_piece" [v, .bl l] H Q E := by
  refine o_is_piece ?_
  unfold r_is_piece
  refine seq_ fun N1 h1 => ifS_ fun A B hA hB => not_ (call1_ rfl (s_is_text (n := n) k hs fun H1 e1 => ?_))
  have h0 := h H1 e1
  cases ht : txV v with
  | false =>
    simp only [oTru, Bool.not_false, if_true]
    refine hA _ (ret_ (const_ ?_))
    have : pcV l v = false := by
      cases v with
      | str s => show (okTx s && _) = false; rw [show okTx s = false from ht]; rfl
      | _ => rfl
    rw [this] at h0
    exact h0
  | true =>
    obtain ⟨s, rfl, hs2⟩ := txV_str ht
    have hl := (okTx_sc hs2).1
    simp only [oTru, Bool.not_true, Bool.false_eq_true, if_false]
    refine hB _ (next_ (h1 _ _ (ret_ (tif_ (var_ rfl ?_)))))
    cases l with
    | true =>
      simp only [oTru, if_true]
      simp only [cChain]
      refine const_ (cb_ (cva_ rfl (nil_ (lenS (by omega) ?_))))
      have e : pcV true (.str s) = (decide (1 ≤ s.length) && decide (s.length ≤ 8)) := by
        show (okTx s && _) = _
        rw [hs2]; rfl
      rw [e] at h0
      by_cases h1' : 1 ≤ s.length
      · rw [decide_eq_true h1', Bool.true_and] at h0
        simp only [oLe]
        rw [decide_eq_true (by exact_mod_cast h1' : (1 : Int) ≤ (s.length : Int))]
        refine const_ ?_
        have h2 : decide ((s.length : Int) ≤ 8) = decide (s.length ≤ 8) := decide_eq_decide.mpr (by omega)
        rw [← h2] at h0
        exact h0
      · rw [decide_eq_false h1', Bool.false_and] at h0
        simp only [oLe]
        rw [decide_eq_false (by omega : ¬ (1 : Int) ≤ (s.length : Int))]
        exact h0
    | false =>
      simp only [oTru, Bool.false_eq_true, if_false]
      refine op_ (cb_ (cva_ rfl (nil_ (lenS (by omega) (const_ (eq_scal rfl rfl rfl ?_))))))
      have e : pcV false (.str s) = decide (s.length = 8) := by
        show (okTx s && _) = _
        rw [hs2]; rfl
      rw [e] at h0
      have h2 : decide (V.int (s.length : Int) = V.int 8) = decide (s.length = 8) := decide_eq_decide.mpr (by simp; omega)
      rw [← h2] at h0
      exact h0
end
end WR.L

set_option Elab.async false
set_option linter.all false
set_option maxRecDepth 100000
set_option maxHeartbeats 400000
namespace WR.L
open PySem PySem.Spec PyProof.Rows L2
section
variable {K : PySem.W.Frag} {n : Nat} {H H' : Hp} {Q : VK} {E : XK} {v a p : V} {m m2 : String} {σ : L2.St} {S : Str → Sp} {ks : Str} {c : CD}
/-- whether a piece fits, as the program reckons -/
def fitF (mo : Option (List Int)) (a p : V) : Bool := match mo, a, p with
  | some ms, .int i, .str s => wholeV 0 ((ms.length : Int) - 1) (.int i) && (pcV (decide (i = (ms.length : Int) - 1)) (.str s) && decide (markF s = ms.getD i.toNat 0))
  | _, _, _ => false
theorem sub1 {i j : Int} (q : Q (.int (i - j)) H) : oSub (.int i) (.int j) H Q := q
theorem fitF_a {ms : List Int} (h : wholeV 0 ((ms.length : Int) - 1) a = false) : fitF (some ms) a p = false := by
  cases a with
  | int i => cases p <;> first | rfl | (simp only [fitF, h, Bool.false_and])
  | _ => rfl
theorem fitF_p {ms : List Int} {i : Int} (h : pcV (decide (i = (ms.length : Int) - 1)) p = false) : fitF (some ms) (.int i) p = false := by
  cases p with
  | str s => simp only [fitF, h, Bool.false_and, Bool.and_false]
  | _ => rfl
theorem s_fits_no (l : Lk H v) (nc : ¬ Crd H v) (r : Rf K H "NoCard" v E) : SP K (n+5) "fits" [v, a, p] H Q E := by
  refine o_fits ?_
  unfold r_fits
  exact seq_ fun N1 h1 => drop_ (call1_ rfl (s_need_card (n := n) l (fun z => (nc z).elim) fun _ => r))
theorem s_fits (hc : CdH H v ks c) (oc : OkC ks c) (ka : Kd H a m) (kp : Kd H p m2) (hp : okSc p ∨ m2 ≠ "str") (h : ∀ H', Ex H H' → Q (.bl (fitF c.m a p)) H') : SP K (n+5) "fits" [v, a, p] H Q E := by
  refine o_fits ?_
  unfold r_fits
  refine seq_ fun N1 h1 => drop_ (call1_ rfl (s_need_card (n := n) (hc.tre oc).lk (fun _ H1 e1 => h1 _ _ ?_) fun z => (z (crd_of hc oc)).elim))
  obtain ⟨q0, mv, rfl, hq0, hm⟩ := hc.ex e1
  have h0 := h H1 e1
  refine seq_ fun N2 h2 => asg_ (op_ (var_ rfl (const_ (idx3 hq0 (h2 _ _ ?_)))))
  simp only [List.set_cons_zero, List.set_cons_succ]
  refine seq_ fun N3 h3 => ifS_ fun A B hA hB => or_ (test_ (op_ (var_ rfl (const_ ?_))))
  obtain ⟨i0, b0, mo⟩ := c
  cases mo with
  | none =>
    obtain rfl : mv = .non := hm
    simp only [oIs, decide_true, if_true]
    exact hA _ (ret_ (const_ h0))
  | some ms =>
    obtain ⟨q, rfl, hq⟩ := hm
    simp only [oIs, reduceCtorEq, decide_false, Bool.false_eq_true, if_false]
    refine not_ (call_ (cva_ rfl (con_ (cons_ (op_ (cb_ (cva_ rfl (nil_ (lenT hq (const_ (sub1 (nil_ (nil_ ⟨rfl, rfl, ?_⟩)))))))))))))
    rw [List.length_map]
    refine s_is_whole (n := n + 3) (ka.ex e1) ?_
    cases hw : wholeV 0 ((ms.length : Int) - 1) a with
    | false =>
      simp only [oTru, Bool.not_false, if_true]
      refine hA _ (ret_ (const_ ?_))
      rw [fitF_a hw] at h0
      exact h0
    | true =>
      obtain ⟨i, rfl, hi0, hi1⟩ := whole_int hw
      simp only [oTru, Bool.not_true, Bool.false_eq_true, if_false]
      refine hB _ (next_ (h3 _ _ (ret_ (and_ (call_ (cva_ rfl (nil_ (cons_ (op_ (var_ rfl (op_ (cb_ (cva_ rfl (nil_ (lenT hq (const_ (sub1 ?_)))))))))))))))))
      rw [List.length_map]
      refine eq_scal rfl rfl rfl (nil_ ⟨rfl, rfl, ?_⟩)
      have el : decide (V.int i = V.int ((ms.length : Int) - 1)) = decide (i = (ms.length : Int) - 1) := decide_eq_decide.mpr (by simp)
      rw [el]
      refine s_is_piece (n := n + 2) (kp.ex e1) hp fun H2 e2 => ?_
      have h02 := h H2 (e1.trans e2)
      cases hpc : pcV (decide (i = (ms.length : Int) - 1)) p with
      | false =>
        rw [fitF_p hpc] at h02
        exact h02
      | true =>
        cases p with
        | str s =>
          have hs : okTx s = true := by
            have : (okTx s && _) = true := hpc
            rw [Bool.and_eq_true] at this
            exact this.1
          refine op_ (call1_ rfl (s_mark_of (n := n + 2) hs (okTx_sc hs) fun H3 e3 => ?_))
          have h03 := h H3 ((e1.trans e2).trans e3)
          obtain ⟨j, rfl⟩ := Int.eq_ofNat_of_zero_le hi0
          have hj : j < ms.length := by omega
          have hat : (ms.map V.int)[j]? = some (.int (ms.getD j 0)) := by simp [hj]
          refine op_ (var_ rfl (var_ rfl (idx_tup ((e2.trans e3) _ _ hq) hat (eq_scal rfl rfl rfl ?_))))
          have e : fitF (some ms) (.int (j : Nat)) (.str s) = decide (V.int (markF s) = V.int (ms.getD j 0)) := by
            show (wholeV 0 ((ms.length : Int) - 1) (.int (j : Nat)) && (pcV _ (.str s) && decide (markF s = ms.getD ((j : Nat) : Int).toNat 0))) = _
            rw [hw, hpc, Int.toNat_natCast]
            exact decide_eq_decide.mpr (by simp)
          rw [e] at h03
          exact h03
        | _ => cases hpc
end
end WR.L

set_option Elab.async false
set_option linter.all false
set_option maxRecDepth 100000
set_option maxHeartbeats 400000
namespace WR.L
open PySem PySem.Spec PyProof.Rows L2
section
variable {K : PySem.W.Frag} {n : Nat} {H H' : Hp} {Q : VK} {E : XK} {v : V} {σ : L2.St} {D : Ends} {xs : List V}
/-- for at, x in enumerate(a list or a tuple) -/
theorem enum_ {i : Nat} {g : TG} {tb : TS} (hi : σ[i]? = some (some v)) (hs : Sq H v xs)
    (q : ∀ J : It, (∀ k H', Ex H H' → k < xs.length → J.go k H') → (∀ k H' y H2, Ex H H' → J.yld k H' y H2 → ∃ T x, y = .ref T ∧ H' T = none ∧ H2 = upd H' T (.tup [.int (k : Nat), x]) ∧ xs[k]? = some x) → (∀ H', Ex H H' → J.stop xs.length H') → ∃ n, lp J g tb D n 0 σ H) :
    orL (cFor (cEnum K (tCons (cVar i) tNil)) g tb) D σ H := by
  refine .inl ?_
  obtain ⟨p, rfl, hp⟩ := hs
  simp only [cFor, cEnum]
  refine cva_ hi (nil_ ?_)
  rcases hp with hp | hp
  · simp only [look_of_lst (K := K) hp]
    refine q (Ite K p) (fun k H' e hk => ⟨xs, xs[k], .inl (.inl (e _ _ hp)), by simp [hk]⟩) (fun k H' y H2 e h => ?_) fun H' e => ⟨xs, .inl (.inl (e _ _ hp)), Nat.le_refl _⟩
    obtain ⟨T, x, a, b, c, d⟩ := h
    exact ⟨T, x, a, b, c, d xs (.inl (.inl (e _ _ hp)))⟩
  · simp only [look_of_tup (K := K) hp]
    refine q (IteT K p) (fun k H' e hk => ⟨xs, xs[k], look_tup (look_of_tup (e _ _ hp)), by simp [hk]⟩) (fun k H' y H2 e h => ?_) fun H' e => ⟨xs, look_tup (look_of_tup (e _ _ hp)), rfl⟩
    obtain ⟨T, x, a, b, c, d⟩ := h
    exact ⟨T, x, a, b, c, d xs (look_tup (look_of_tup (e _ _ hp)))⟩
end
end WR.L

set_option Elab.async false
set_option linter.all false
set_option maxRecDepth 100000
set_option maxHeartbeats 400000
namespace WR.L
open PySem PySem.Spec PyProof.Rows L2
section
variable {K : PySem.W.Frag} {n : Nat} {H H' : Hp} {Q : VK} {E : XK} {v w : V} {N : Nat} {σ : L2.St} {D : Ends} {xs : List V} {ks : Str} {c : CD} {m : String}
/-- the first place that doesn't fit, from k on -/
def wrongF (mo : Option (List Int)) : Nat → List V → V
  | k, [] => match mo with
    | some ms => if k < ms.length then .int (k : Nat) else .non
    | none => .non
  | k, x :: xs => if fitF mo (.int (k : Nat)) x = true then wrongF mo (k + 1) xs else .int (k : Nat)
theorem s_first_wrong_no (l : Lk H v) (nc : ¬ Crd H v) (r : Rf K H "NoCard" v E) : SP K (n+6) "first_wrong" [v, w] H Q E := by
  refine o_first_wrong ?_
  unfold r_first_wrong
  exact seq_ fun N1 h1 => drop_ (call1_ rfl (s_need_card (n := n + 1) l (fun z => (nc z).elim) fun _ => r))
theorem s_first_wrong_bad (hc : CdH H v ks c) (oc : OkC ks c) (k : Kd H w m) (hb : (decide (m = "list") || decide (m = "tuple")) = false ∨ ∃ xs, Sq H w xs ∧ 100 < xs.length) (r : Rf K H "NoList" w E) : SP K (n+6) "first_wrong" [v, w] H Q E := by
  refine o_first_wrong ?_
  unfold r_first_wrong
  refine seq_ fun N1 h1 => drop_ (call1_ rfl (s_need_card (n := n + 1) (hc.tre oc).lk (fun _ H1 e1 => h1 _ _ ?_) fun z => (z (crd_of hc oc)).elim))
  refine seq_ fun N2 h2 => ifS_ fun A B hA hB => not_ (call_ (cva_ rfl (con_ (nil_ (nil_ ⟨rfl, rfl, ?_⟩)))))
  have bad : ∀ H2, Ex H1 H2 → A H2 := fun H2 e2 => hA _ (by
    simp only [tRs, tMkX, cVar, List.getElem?_cons_zero, List.getElem?_cons_succ]
    exact fun x hx => r x _ ((e1.trans e2).trans (Ex.refl.new hx)) upd_same)
  rcases hb with hb | ⟨xs, hs, hx⟩
  · refine s_is_list_no (n := n + 4) (k.ex e1) hb fun H2 e2 => ?_
    simp only [oTru, Bool.not_false, if_true]
    exact bad _ e2
  · refine s_is_list_sq (n := n + 4) (hs.ex e1) fun H2 e2 => ?_
    rw [decide_eq_false (by omega : ¬ ((xs.length : Int) ≤ 100))]
    simp only [oTru, Bool.not_false, if_true]
    exact bad _ e2
end
end WR.L

set_option Elab.async false
set_option linter.all false
set_option maxRecDepth 100000
set_option maxHeartbeats 400000
namespace WR.L
open PySem PySem.Spec PyProof.Rows L2
section
variable {K : PySem.W.Frag} {n : Nat} {H H' : Hp} {Q : VK} {E : XK} {v w : V} {N : Nat} {σ : L2.St} {D : Ends} {xs : List V} {ks : Str} {c : CD} {m : String}
theorem wrongF_drop {mo : Option (List Int)} {j : Nat} (hj : j < xs.length) : wrongF mo j (xs.drop j) = if fitF mo (.int (j : Nat)) xs[j] = true then wrongF mo (j + 1) (xs.drop (j + 1)) else .int (j : Nat) := by
  rw [List.drop_eq_getElem_cons hj]; rfl
theorem s_first_wrong (hc : CdH H v ks c) (oc : OkC ks c) (hs : Sq H w xs) (hl : xs.length ≤ 100) (hx : ∀ y ∈ xs, Cm H y) (h : ∀ H', Ex H H' → Q (wrongF c.m 0 xs) H') : SP K (n+6) "first_wrong" [v, w] H Q E := by
  refine o_first_wrong ?_
  unfold r_first_wrong
  refine seq_ fun N1 h1 => drop_ (call1_ rfl (s_need_card (n := n + 1) (hc.tre oc).lk (fun _ H1 e1 => h1 _ _ ?_) fun z => (z (crd_of hc oc)).elim))
  refine seq_ fun N2 h2 => ifS_ fun A B hA hB => not_ (call_ (cva_ rfl (con_ (nil_ (nil_ ⟨rfl, rfl, s_is_list_sq (n := n + 4) (hs.ex e1) fun H2 e2 => ?_⟩)))))
  rw [decide_eq_true (by omega : ((xs.length : Int) ≤ 100))]
  simp only [oTru, Bool.not_true, Bool.false_eq_true, if_false]
  refine hB _ (next_ (h2 _ _ ?_))
  have e12 := e1.trans e2
  refine seq_ fun N3 h3 => enum_ rfl (hs.ex e12) fun J go yld stop => ?_
  refine lp_inv (n := xs.length) (fun j σ H' => (∃ x2 x3, σ = [some v, some w, x2, x3]) ∧ Ex H2 H' ∧ wrongF c.m 0 xs = wrongF c.m j (xs.drop j)) ?_ ?_ ⟨⟨_, _, rfl⟩, Ex.refl, rfl⟩
  · rintro σ H3 ⟨⟨x2, x3, rfl⟩, e3, he⟩
    refine ⟨stop _ e3, h3 _ _ (ret_ (tif_ ?_))⟩
    have h0 := h H3 (e12.trans e3)
    rw [he, List.drop_length] at h0
    obtain ⟨q0, mv, rfl, hq0, hm⟩ := hc.ex (e12.trans e3)
    refine and2_ (test_ (op_ (op_ (var_ rfl (const_ (idx3 hq0 (const_ ?_)))))))
    obtain ⟨i0, b0, mo⟩ := c
    cases mo with
    | none =>
      obtain rfl : mv = .non := hm
      exact h0
    | some ms =>
      obtain ⟨q, rfl, hq⟩ := hm
      simp only [oIsNot, reduceCtorEq, decide_false, Bool.not_false, if_true]
      refine test_ (op_ (cb_ (cva_ rfl (nil_ ((hs.ex (e12.trans e3)).len (cb_ (cons_ (op_ (var_ rfl (const_ (idx3 hq0 (nil_ (lenT hq ?_)))))))))))))
      rw [List.length_map]
      simp only [oLtK]
      by_cases hlt : xs.length < ms.length
      · rw [decide_eq_true (by omega : (xs.length : Int) < (ms.length : Int))]
        have e : wrongF (some ms) xs.length [] = .int (xs.length : Nat) := by simp only [wrongF, if_pos hlt]
        rw [e] at h0
        simp only [if_true]
        exact cb_ (cva_ rfl (nil_ ((hs.ex (e12.trans e3)).len h0)))
      · rw [decide_eq_false (by omega : ¬ (xs.length : Int) < (ms.length : Int))]
        have e : wrongF (some ms) xs.length [] = .non := by simp only [wrongF, if_neg hlt]
        rw [e] at h0
        simp only [Bool.false_eq_true, if_false]
        exact const_ h0
  · rintro j σ H3 hj ⟨⟨x2, x3, rfl⟩, e3, he⟩ R hR
    refine ⟨go j _ e3 hj, ?_⟩
    intro y H4 hy
    obtain ⟨T, x, rfl, hT, rfl, hx2⟩ := yld j _ _ _ e3 hy
    have e4 : Ex H3 (upd H3 T (.tup [.int (j : Nat), x])) := Ex.refl.new hT
    have k4 : (upd H3 T (.tup [.int (j : Nat), x])) T = some (.tup [.int (j : Nat), x]) := upd_same
    generalize upd H3 T (.tup [.int (j : Nat), x]) = H4 at e4 k4
    refine tup2_ (look_of_tup k4) ?_
    simp only [List.set_cons_zero, List.set_cons_succ]
    have eall := (e12.trans e3).trans e4
    obtain ⟨hj2, ex⟩ := List.getElem?_eq_some_iff.mp hx2
    have hcm := (hx x (List.mem_of_getElem? hx2)).ex eall
    obtain ⟨m3, k3, o3⟩ := hcm
    refine ifS_ fun A B hA hB => not_ (call_ (cva_ rfl (cva_ rfl (cva_ rfl (nil_ (nil_ ⟨rfl, rfl, s_fits (n := n) (hc.ex eall) oc (.int _) k3 o3 fun H5 e5 => ?_⟩))))))
    rw [wrongF_drop hj, ex] at he
    cases hf : fitF c.m (.int (j : Nat)) x with
    | true =>
      rw [if_pos hf] at he
      simp only [oTru, Bool.not_true, Bool.false_eq_true, if_false]
      exact hB _ (next_ (hR _ _ ⟨⟨_, _, rfl⟩, (e3.trans e4).trans e5, he⟩))
    | false =>
      rw [if_neg (by rw [hf]; decide)] at he
      simp only [oTru, Bool.not_false, if_true]
      have h0 := h H5 (eall.trans e5)
      rw [he] at h0
      exact hA _ (ret_ (var_ rfl h0))
end
end WR.L

set_option Elab.async false
set_option linter.all false
set_option maxRecDepth 100000
set_option maxHeartbeats 400000
namespace WR.L
open PySem PySem.Spec PyProof.Rows L2
section
variable {K : PySem.W.Frag} {n : Nat} {H H' : Hp} {Q : VK} {E : XK} {v w a p mv : V} {N : Nat} {σ : L2.St} {D : Ends} {xs : List V} {ks : Str} {c : CD} {m m2 : String} {mo : Option (List Int)}
theorem tru_ {t : TE} {R : Bool → Hp → Prop} (h : t σ H fun x H1 => match oTru K x H1 with | some b => R b H1 | none => False) : cTru K t σ H R := h
theorem ltS {c d : Nat} {s t : Str} (hs : s.cps.toList = [c]) (ht : t.cps.toList = [d]) (q : Q (.bl (decide (c < d))) H) : oLtK K (.str s) (.str t) H Q := by
  show Q (.bl (decide (s.cps.toList < t.cps.toList))) H
  have e : decide (s.cps.toList < t.cps.toList) = decide (c < d) := by
    rw [← lt1, decide_eq_decide, hs, ht]
  rw [e]
  exact q
theorem gtS {c d : Nat} {s t : Str} (hs : s.cps.toList = [c]) (ht : t.cps.toList = [d]) (q : Q (.bl (decide (d < c))) H) : oGtK K (.str s) (.str t) H Q := by
  show Q (.bl (decide (t.cps.toList < s.cps.toList))) H
  have e : decide (t.cps.toList < s.cps.toList) = decide (d < c) := by
    rw [← lt1, decide_eq_decide, hs, ht]
  rw [e]
  exact q
theorem lpc_fil {i : Nat} {σ : St} {s : Str} {tt : L2.TT} {f : Nat → Bool} (hs : s.length ≤ 1000)
    (hf : ∀ c H1 (R : Bool → Hp → Prop), c ∈ s.cps.toList → Ex H H1 → R (f c) H1 → tt (σ.set i (some (.str ⟨#[c]⟩))) H1 R)
    (h : ∀ D H', Ex H H' → H D = none → H' D = some (.lst ((s.cps.toList.filter f).map fun c => V.str ⟨#[c]⟩)) → Q (.ref D) H') (hi : i < σ.length) (hw : ∀ v, wipe (σ.set i (some v)) [i] = wipe σ [i]) (hw2 : wipe σ [i] = σ) {D : Addr} (hD : H D = none) :
    ∃ n, lpc (Its s) (gName i) tt (cVar i) [i] σ D Q n 0 (upd H D (.lst [])) := by
  refine lpc_inv (n := s.cps.size) (fun j H' => Ex H H' ∧ H' D = some (.lst (((s.cps.toList.take j).filter f).map fun c => V.str ⟨#[c]⟩))) ?_ ?_ ⟨Ex.refl.new hD, by rw [upd_same]; rfl⟩
  · rintro H' ⟨h1, h2⟩
    refine ⟨Nat.le_refl _, h D H' h1 hD ?_⟩
    rw [h2]
    have e : s.cps.toList.take s.cps.size = s.cps.toList := List.take_of_length_le (by simp)
    rw [e]
  · rintro j H' hj ⟨h1, h2⟩ R hR
    refine ⟨hj, ?_⟩
    rintro x H2 ⟨rfl, c, hc, rfl⟩
    rw [hw2]
    have e : s.cps.toList[j]? = some c := by simpa using hc
    refine ⟨(hw _).trans hw2, ?_⟩
    refine hf c _ _ (List.mem_of_getElem? e) h1 ?_
    have ex2 : ∀ x : HO, Ex H (upd H2 D x) := fun x a o e => by
      by_cases hb : a = D
      · subst hb; rw [hD] at e; cases e
      · rw [upd_ne hb]; exact h1 a o e
    cases q : f c with
    | true =>
      simp only [if_true, cVar, List.getElem?_set_self hi]
      refine ⟨_, h2, ?_, hR _ ⟨ex2 _, ?_⟩⟩
      · rw [List.length_map]
        have := small1000 hs
        have e : s.cps.toList.length = s.length := lens
        have := List.length_filter_le f (s.cps.toList.take j)
        rw [List.length_take] at this
        omega
      · rw [upd_same, List.take_add_one, e]
        simp [q]
    | false =>
      simp only [Bool.false_eq_true, if_false]
      refine hR _ ⟨h1, ?_⟩
      rw [h2, List.take_add_one, e]
      simp [q]
theorem bad_signs {S : Str → Sp} {s : Str} (hsc : okSc (.str s)) (ha : σ.length = 4) (h3 : σ[3]? = some none) (h2 : σ[2]? = some (some (.str s))) (h : ∀ H', Ex H H' → Q (.bl (!s.cps.toList.all txC)) H') :
    tOp (oNeG (gg K S)) (cLcL (cIter K (frzE (cVar 2))) (gName 3) (tOr (cTest (tOp (oLtK K) (cVar 3) (tC (.str " ")))) (tOr (cTest (tOp (oGtK K) (cVar 3) (tC (.str "~")))) (cTest (tOp (oEqG (gg K S)) (tCB (bOrd) (tCons (cVar 3) tNil)) (tC (.int 37)))))) (cVar 3) [3]) (tLst tNil) σ H Q := by
  obtain ⟨x0, x1, x2, x3, rfl⟩ : ∃ x0 x1 x2 x3, σ = [x0, x1, x2, x3] := by
    match σ, ha with
    | [x0, x1, x2, x3], _ => exact ⟨x0, x1, x2, x3, rfl⟩
  obtain rfl : x3 = none := by simpa using h3
  obtain rfl : x2 = some (.str s) := by simpa using h2
  refine op_ ?_
  have hs := sc_len hsc
  refine .inl ?_
  simp only [cLc, cIter, frzE]
  refine var_ rfl fun D hD => ?_
  refine lpc_fil (f := fun c => !txC c) hs (fun c H1 R hc e q => ?_) (fun D H' e hDn hD => ?_) (by simp) (fun v => rfl) rfl hD
  · refine or_ (test_ (op_ (var_ rfl (const_ (ltS (c := c) (d := 32) rfl rfl ?_)))))
    unfold txC at q
    by_cases a : c < 32
    · simp only [a, decide_true, Bool.not_true, Bool.false_and, Bool.not_false, if_true] at q ⊢
      exact q
    · simp only [a, decide_false, Bool.not_false, Bool.true_and, Bool.not_true, Bool.false_eq_true, if_false] at q ⊢
      refine or_ (test_ (op_ (var_ rfl (const_ (gtS (c := c) (d := 126) rfl rfl ?_)))))
      by_cases b : 126 < c
      · simp only [b, decide_true, Bool.not_true, Bool.false_and, Bool.not_false, if_true] at q ⊢
        exact q
      · simp only [b, decide_false, Bool.not_false, Bool.true_and, Bool.not_true, Bool.false_eq_true, if_false, Bool.not_not] at q ⊢
        refine test_ (op_ (cb_ (cva_ rfl (nil_ (ord1' (const_ (eq_scal rfl rfl rfl ?_)))))))
        have : decide (V.int ((c : Nat) : Int) = V.int 37) = decide (c = 37) := by
          by_cases z : c = 37
          · subst z; rfl
          · rw [decide_eq_false z, decide_eq_false fun w => z (by have := V.int.inj w; omega)]
        rw [this]
        exact q
  · refine lst_ (nil_ ⟨by simp only [sizeLine_eq, List.length_nil]; omega, fun D2 hD2 => ?_⟩)
    have e2 : Ex H' (upd H' D2 (.lst [])) := Ex.refl.new hD2
    refine ne_nil (ss := ((s.cps.toList.filter fun c => !txC c).map fun c => (⟨#[c]⟩ : Str))) (by rw [List.map_map]; exact e2 _ _ hD) upd_same (fun t ht => ?_) ?_
    · obtain ⟨c, hc, rfl⟩ := List.mem_map.mp ht
      exact one_ok (asc_of hsc c (List.mem_filter.mp hc).1)
    · rw [fil_nil (g := txC) fun c => rfl]
      exact h _ (e.trans e2)
theorem fit_str {ms : List Int} {i : Int} {s : Str} (h : fitF (some ms) (.int i) (.str s) = true) : 0 ≤ i ∧ i < ms.length ∧ 1 ≤ s.length ∧ s.length ≤ 8 ∧ (i < (ms.length : Int) - 1 → s.length = 8) ∧ s.cps.toList.all txC = true ∧ markF s = ms.getD i.toNat 0 := by
  simp only [fitF, wholeV, pcV, okTx, Bool.and_eq_true, decide_eq_true_eq] at h
  obtain ⟨⟨h1, h2⟩, ⟨⟨h3, h4⟩, h5⟩, h6⟩ := h
  by_cases e : i = (ms.length : Int) - 1
  · rw [if_pos e, Bool.and_eq_true, decide_eq_true_eq, decide_eq_true_eq] at h5
    exact ⟨h1, by omega, h5.1, h5.2, fun z => by omega, h4, h6⟩
  · rw [if_neg e, decide_eq_true_eq] at h5
    exact ⟨h1, by omega, by omega, by omega, fun _ => h5, h4, h6⟩
theorem fit_iff {ms : List Int} {i : Int} {s : Str} : fitF (some ms) (.int i) (.str s) = true ↔ 0 ≤ i ∧ i < ms.length ∧ 1 ≤ s.length ∧ s.length ≤ 8 ∧ (i < (ms.length : Int) - 1 → s.length = 8) ∧ s.cps.toList.all txC = true ∧ markF s = ms.getD i.toNat 0 := by
  refine ⟨fit_str, ?_⟩
  rintro ⟨h1, h2, h3, h4, h5, h6, h7⟩
  simp only [fitF, wholeV, pcV, okTx, Bool.and_eq_true, decide_eq_true_eq]
  refine ⟨⟨h1, by omega⟩, ⟨⟨by omega, h6⟩, ?_⟩, h7⟩
  by_cases e : i = (ms.length : Int) - 1
  · rw [if_pos e, Bool.and_eq_true, decide_eq_true_eq, decide_eq_true_eq]
    exact ⟨h3, h4⟩
  · rw [if_neg e, decide_eq_true_eq]
    exact h5 (by omega)
theorem fit_no {ms : List Int} {i : Int} {s : Str} (h : ¬ (0 ≤ i ∧ i < ms.length ∧ 1 ≤ s.length ∧ s.length ≤ 8 ∧ (i < (ms.length : Int) - 1 → s.length = 8) ∧ s.cps.toList.all txC = true ∧ markF s = ms.getD i.toNat 0)) : fitF (some ms) (.int i) (.str s) = false := by
  cases e : fitF (some ms) (.int i) (.str s) with
  | false => rfl
  | true => exact (h (fit_str e)).elim
theorem s__law_fits (hm : MvC H mv mo) (ka : Kd H a m) (kp : Kd H p m2) (hp : okSc p ∨ m2 ≠ "str") (h : ∀ H', Ex H H' → Q (.bl (fitF mo a p)) H') : SP K (n+3) "_law_fits" [mv, a, p] H Q E := by
  refine o__law_fits ?_
  unfold r__law_fits
  refine seq_ fun N1 h1 => ifS_ fun A B hA hB => or_ (test_ (op_ (var_ rfl (const_ ?_))))
  have h0 := h H Ex.refl
  cases mo with
  | none =>
    obtain rfl : mv = .non := hm
    simp only [oIs, decide_true, if_true]
    exact hA _ (ret_ (const_ h0))
  | some ms =>
    obtain ⟨q, rfl, hq⟩ := hm
    simp only [oIs, reduceCtorEq, decide_false, Bool.false_eq_true, if_false]
    refine or_ (not_ (cb_ (cva_ rfl (con_ (nil_ (isi_k ka (by decide) ?_))))))
    have bad : m ≠ "int" → A H := fun z => hA _ (ret_ (const_ (by rw [fitF_a (wholeV_no ka z)] at h0; exact h0)))
    cases hb1 : isK m "int" with
    | false =>
      simp only [oTru, Bool.not_false, if_true]
      exact bad fun z => by subst z; cases hb1
    | true =>
      simp only [oTru, Bool.not_true, Bool.false_eq_true, if_false]
      refine or_ (tru_ (cb_ (cva_ rfl (con_ (nil_ (isi_k ka (by decide) ?_))))))
      cases hb2 : isK m "bool" with
      | true =>
        simp only [oTru, if_true]
        exact bad fun z => by subst z; cases hb2
      | false =>
        simp only [oTru, Bool.false_eq_true, if_false]
        have hmi : m = "int" := by
          by_cases z : m = "int"
          · exact z
          · unfold isK at hb1 hb2
            rw [decide_eq_false z, Bool.false_or, Bool.and_eq_true, decide_eq_true_eq] at hb1
            rw [hb1.1] at hb2
            cases hb2
        obtain ⟨i, rfl⟩ := ka.int_of hmi
        have badI : ¬ (0 ≤ i ∧ i < ms.length) → A H := fun z => hA _ (ret_ (const_ (by
          rw [fitF_a (by
            simp only [wholeV]
            rw [← Bool.not_eq_true, Bool.and_eq_true, decide_eq_true_eq, decide_eq_true_eq]
            omega)] at h0
          exact h0)))
        refine or_ (test_ (op_ (var_ rfl (const_ ?_))))
        simp only [oLtK]
        by_cases i0 : i < 0
        · rw [decide_eq_true i0]
          simp only [if_true]
          exact badI (by omega)
        · rw [decide_eq_false i0]
          simp only [Bool.false_eq_true, if_false]
          refine test_ (op_ (var_ rfl (cb_ (cva_ rfl (nil_ (lenT hq ?_))))))
          rw [List.length_map]
          simp only [oGeK, oGe]
          by_cases i1 : (ms.length : Int) ≤ i
          · rw [decide_eq_true i1]
            simp only [if_true]
            exact badI (by omega)
          · rw [decide_eq_false i1]
            simp only [Bool.false_eq_true, if_false]
            refine hB _ (next_ (h1 _ _ ?_))
            refine seq_ fun N2 h2 => ifS_ fun A2 B2 hA2 hB2 => or_ (not_ (cb_ (cva_ rfl (con_ (nil_ (isi_k kp (by decide) ?_))))))
            by_cases hm2 : m2 = "str"
            · subst hm2
              obtain ⟨s, rfl⟩ := kp.str_of rfl
              have hsc := hp.resolve_right fun z => z rfl
              have hl := sc_len hsc
              have badS : ∀ H', Ex H H' → ¬ (1 ≤ s.length ∧ s.length ≤ 8 ∧ (i < (ms.length : Int) - 1 → s.length = 8) ∧ s.cps.toList.all txC = true) → Q (.bl false) H' := fun H' e z => by
                have h0 := h H' e
                rw [fit_no fun ⟨_, _, a, b, c, d, _⟩ => z ⟨a, b, c, d⟩] at h0
                exact h0
              simp only [show isK "str" "str" = true from rfl, oTru, Bool.not_true, Bool.false_eq_true, if_false]
              refine or_ (test_ (op_ (cb_ (cva_ rfl (nil_ (lenS hl (const_ ?_)))))))
              simp only [oLtK]
              by_cases s1 : s.length < 1
              · rw [decide_eq_true (by omega : (s.length : Int) < 1)]
                simp only [if_true]
                exact hA2 _ (ret_ (const_ (badS _ Ex.refl fun z => by omega)))
              · rw [decide_eq_false (by omega : ¬ (s.length : Int) < 1)]
                simp only [Bool.false_eq_true, if_false]
                refine or_ (test_ (op_ (cb_ (cva_ rfl (nil_ (lenS hl (const_ ?_)))))))
                simp only [oGtK, oGt]
                by_cases s8 : 8 < s.length
                · rw [decide_eq_true (by omega : (8 : Int) < (s.length : Int))]
                  simp only [if_true]
                  exact hA2 _ (ret_ (const_ (badS _ Ex.refl fun z => by omega)))
                · rw [decide_eq_false (by omega : ¬ (8 : Int) < (s.length : Int))]
                  simp only [Bool.false_eq_true, if_false]
                  refine and2_ (test_ (op_ (var_ rfl (op_ (cb_ (cva_ rfl (nil_ (lenT hq (const_ (sub1 ?_))))))))))
                  rw [List.length_map]
                  simp only [oLtK]
                  have go : (i < (ms.length : Int) - 1 → s.length = 8) → B2 H := fun hlast => by
                    refine hB2 _ (next_ (h2 _ _ ?_))
                    refine seq_ fun N3 h3 => ifS_ fun A3 B3 hA3 hB3 => test_ (bad_signs hsc rfl rfl rfl fun H3 e3 => ?_)
                    cases ht : s.cps.toList.all txC with
                    | false =>
                      simp only [Bool.not_false, if_true]
                      exact hA3 _ (ret_ (const_ (badS _ e3 fun z => by rw [z.2.2.2] at ht; cases ht)))
                    | true =>
                      simp only [Bool.not_true, Bool.false_eq_true, if_false]
                      refine hB3 _ (next_ (h3 _ _ (ret_ (op_ (call1_ rfl (s__law_mark (n := n) fun H4 e4 => ?_))))))
                      obtain ⟨j, rfl⟩ := Int.eq_ofNat_of_zero_le (by omega : 0 ≤ i)
                      have hj : j < ms.length := by omega
                      have hat : (ms.map V.int)[j]? = some (.int (ms.getD j 0)) := by simp [hj]
                      refine var_ rfl (var_ rfl (idx_tup ((e3.trans e4) _ _ hq) hat (eq_scal rfl rfl rfl ?_)))
                      have h04 := h H4 (e3.trans e4)
                      have e : fitF (some ms) (.int (j : Nat)) (.str s) = decide (V.int (markF s) = V.int (ms.getD j 0)) := by
                        by_cases z : markF s = ms.getD j 0
                        · rw [decide_eq_true (by rw [z])]
                          exact fit_iff.mpr ⟨by omega, by omega, by omega, by omega, hlast, ht, by rw [Int.toNat_natCast]; exact z⟩
                        · rw [decide_eq_false fun w => z (V.int.inj w)]
                          exact fit_no fun w => z (by have := w.2.2.2.2.2.2; rw [Int.toNat_natCast] at this; exact this)
                      rw [e] at h04
                      exact h04
                  by_cases il : i < (ms.length : Int) - 1
                  · rw [decide_eq_true il]
                    simp only [if_true]
                    refine test_ (op_ (cb_ (cva_ rfl (nil_ (lenS hl (const_ ?_))))))
                    simp only [oLtK]
                    by_cases l8 : s.length < 8
                    · rw [decide_eq_true (by omega : (s.length : Int) < 8)]
                      simp only [if_true]
                      exact hA2 _ (ret_ (const_ (badS _ Ex.refl fun z => by have := z.2.2.1 il; omega)))
                    · rw [decide_eq_false (by omega : ¬ (s.length : Int) < 8)]
                      simp only [Bool.false_eq_true, if_false]
                      exact go fun _ => by omega
                  · rw [decide_eq_false il]
                    simp only [Bool.false_eq_true, if_false]
                    exact go fun z => (il z).elim
            · simp only [isK_no (m := m2) (T := "str") hm2 fun _ => by decide, oTru, Bool.not_false, if_true]
              refine hA2 _ (ret_ (const_ ?_))
              rw [fitF_p (by
                cases p with
                | str s => exact absurd (by cases kp; rfl) hm2
                | _ => rfl)] at h0
              exact h0
end
end WR.L

set_option Elab.async false
set_option linter.all false
set_option maxRecDepth 100000
set_option maxHeartbeats 400000
namespace WR.L
open PySem PySem.Spec PyProof.Rows L2
section
variable {K : PySem.W.Frag} {n : Nat} {H H' : Hp} {Q : VK} {E : XK} {v w mv : V} {N : Nat} {σ : L2.St} {D : Ends} {xs : List V} {ks : Str} {c : CD} {m : String} {mo : Option (List Int)}
theorem MvC.ex (x : Ex H H') (h : MvC H mv mo) : MvC H' mv mo := h.tp x.tp
theorem s__law_wrong (hm : MvC H mv mo) (hs : Sq H w xs) (hx : ∀ y ∈ xs, Cm H y) (h : ∀ H', Ex H H' → Q (wrongF mo 0 xs) H') : SP K (n+4) "_law_wrong" [mv, w] H Q E := by
  refine o__law_wrong ?_
  unfold r__law_wrong
  refine seq_ fun N3 h3 => enum_ rfl hs fun J go yld stop => ?_
  refine lp_inv (n := xs.length) (fun j σ H' => (∃ x2 x3, σ = [some mv, some w, x2, x3]) ∧ Ex H H' ∧ wrongF mo 0 xs = wrongF mo j (xs.drop j)) ?_ ?_ ⟨⟨_, _, rfl⟩, Ex.refl, rfl⟩
  · rintro σ H3 ⟨⟨x2, x3, rfl⟩, e3, he⟩
    refine ⟨stop _ e3, h3 _ _ (ret_ (tif_ ?_))⟩
    have h0 := h H3 e3
    rw [he, List.drop_length] at h0
    refine and2_ (test_ (op_ (var_ rfl (const_ ?_))))
    cases mo with
    | none =>
      obtain rfl : mv = .non := hm
      exact h0
    | some ms =>
      obtain ⟨q, rfl, hq⟩ := hm
      simp only [oIsNot, reduceCtorEq, decide_false, Bool.not_false, if_true]
      refine test_ (op_ (cb_ (cva_ rfl (nil_ ((hs.ex e3).len (cb_ (cva_ rfl (nil_ (lenT (e3 _ _ hq) ?_)))))))))
      rw [List.length_map]
      simp only [oLtK]
      by_cases hlt : xs.length < ms.length
      · rw [decide_eq_true (by omega : (xs.length : Int) < (ms.length : Int))]
        have e : wrongF (some ms) xs.length [] = .int (xs.length : Nat) := by simp only [wrongF, if_pos hlt]
        rw [e] at h0
        simp only [if_true]
        exact cb_ (cva_ rfl (nil_ ((hs.ex e3).len h0)))
      · rw [decide_eq_false (by omega : ¬ (xs.length : Int) < (ms.length : Int))]
        have e : wrongF (some ms) xs.length [] = .non := by simp only [wrongF, if_neg hlt]
        rw [e] at h0
        simp only [Bool.false_eq_true, if_false]
        exact const_ h0
  · rintro j σ H3 hj ⟨⟨x2, x3, rfl⟩, e3, he⟩ R hR
    refine ⟨go j _ e3 hj, ?_⟩
    intro y H4 hy
    obtain ⟨T, x, rfl, hT, rfl, hx2⟩ := yld j _ _ _ e3 hy
    have e4 : Ex H3 (upd H3 T (.tup [.int (j : Nat), x])) := Ex.refl.new hT
    have k4 : (upd H3 T (.tup [.int (j : Nat), x])) T = some (.tup [.int (j : Nat), x]) := upd_same
    generalize upd H3 T (.tup [.int (j : Nat), x]) = H4 at e4 k4
    refine tup2_ (look_of_tup k4) ?_
    simp only [List.set_cons_zero, List.set_cons_succ]
    have eall := e3.trans e4
    obtain ⟨hj2, ex⟩ := List.getElem?_eq_some_iff.mp hx2
    have hcm := (hx x (List.mem_of_getElem? hx2)).ex eall
    obtain ⟨m3, k3, o3⟩ := hcm
    refine ifS_ fun A B hA hB => not_ (call_ (cva_ rfl (cva_ rfl (cva_ rfl (nil_ (nil_ ⟨rfl, rfl, s__law_fits (n := n) (hm.ex eall) (.int _) k3 o3 fun H5 e5 => ?_⟩))))))
    rw [wrongF_drop hj, ex] at he
    cases hf : fitF mo (.int (j : Nat)) x with
    | true =>
      rw [if_pos hf] at he
      simp only [oTru, Bool.not_true, Bool.false_eq_true, if_false]
      exact hB _ (next_ (hR _ _ ⟨⟨_, _, rfl⟩, (e3.trans e4).trans e5, he⟩))
    | false =>
      rw [if_neg (by rw [hf]; decide)] at he
      simp only [oTru, Bool.not_false, if_true]
      have h0 := h H5 (eall.trans e5)
      rw [he] at h0
      exact hA _ (ret_ (var_ rfl h0))
end
end WR.L

set_option Elab.async false
set_option linter.all false
set_option maxRecDepth 100000
set_option maxHeartbeats 400000
namespace WR.L
open PySem PySem.Spec PyProof.Rows L2
section
variable {K : PySem.W.Frag} {n : Nat} {H H' : Hp} {Q : VK} {E : XK} {v w mv : V} {N : Nat} {σ : L2.St} {D : Ends} {xs : List V} {ks : Str} {c : CD} {m : String} {mo : Option (List Int)} {kvs : List (Key × V)} {S : Str → Sp}
/-! ## pieces by their places, in a dict -/
def ChH (H : Hp) (w : V) (kvs : List (Key × V)) : Prop := ∃ p, w = .ref p ∧ H p = some (.dK kvs)
theorem ChH.ex (x : Ex H H') (h : ChH H w kvs) : ChH H' w kvs := by
  obtain ⟨p, e, h⟩ := h
  exact ⟨p, e, x _ _ h⟩
def hasK (kvs : List (Key × V)) (j : Nat) : Bool := (valV kvs (.inl (j : Int))).isSome
def getK (kvs : List (Key × V)) (j : Nat) : V := (valV kvs (.inl (j : Int))).getD .non
def badK (mo : Option (List Int)) (kvs : List (Key × V)) (j : Nat) : Bool := hasK kvs j && !fitF mo (.int (j : Nat)) (getK kvs j)
def strOf : V → Str
  | .str s => s
  | _ => ""
def txtW (kvs : List (Key × V)) (k : Nat) : Str := Txt.join "" ((List.range k).map fun j => strOf (getK kvs j))
inductive WO where
  | away
  | wrong (j : Nat)
  | lacks (l : List Nat)
  | text (s : Str)
def wholeF (mo : Option (List Int)) (kvs : List (Key × V)) : WO := match mo with
  | none => .away
  | some ms => match (List.range ms.length).find? (badK (some ms) kvs) with
    | some j => .wrong j
    | none => if ((List.range ms.length).filter fun j => !hasK kvs j).isEmpty = true then .text (txtW kvs ms.length) else .lacks ((List.range ms.length).filter fun j => !hasK kvs j)
def WRf (K : PySem.W.Frag) (H : Hp) (ks : Str) (Q : VK) (E : XK) : WO → Prop
  | .away => Rf K H "Away" (.str ks) E
  | .wrong j => ∀ x H', Ex H H' → H' x = some (.xd [("at", .int (j : Nat))]) → E (.ref (He.ga K "WrongPiece")) (some x) H'
  | .lacks l => ∀ x L H', Ex H H' → H' x = some (.xd [("found", .ref L)]) → H' L = some (.lst (l.map fun (j : Nat) => V.int (j : Nat))) → E (.ref (He.ga K "Lacks")) (some x) H'
  | .text s => ∀ H', Ex H H' → Q (.str s) H'
theorem WRf.ex {o : WO} (x : Ex H H') (h : WRf K H ks Q E o) : WRf K H' ks Q E o := by
  cases o with
  | away => exact Rf.ex x h
  | wrong j => exact fun y H1 e => h y H1 (x.trans e)
  | lacks l => exact fun y L H1 e => h y L H1 (x.trans e)
  | text s => exact fun H1 e => h H1 (x.trans e)
theorem in_kv {b : Bool} {p : Addr} {j : Nat} (h : H p = some (.dK kvs)) (q : Q (.bl (b ^^ hasK kvs j)) H) : oIn K b (.int (j : Nat)) (.ref p) H Q := by
  have e := in_dK (K := K) (k := .inl (j : Int)) (b := b) (Q := Q) (.inl h)
  rw [show V.int (j : Nat) = kV (.inl (j : Int)) from rfl, e]
  exact q
theorem has_get {j : Nat} (h : hasK kvs j = true) : valV kvs (.inl (j : Int)) = some (getK kvs j) := by
  unfold hasK at h
  unfold getK
  cases e : valV kvs (.inl (j : Int)) with
  | none => rw [e] at h; cases h
  | some x => rfl
theorem ix_kv {p : Addr} {j : Nat} (h : H p = some (.dK kvs)) (e : hasK kvs j = true) (q : Q (getK kvs j) H) : oIx K (.ref p) (.int (j : Nat)) H Q := by
  have z := ix_dK (K := K) (Q := Q) (k := .inl (j : Int)) (v := getK kvs j) (.inl h) (has_get e).symm
  rw [show V.int (j : Nat) = kV (.inl (j : Int)) from rfl, z]
  exact q
theorem valV_memV {k : Key} {x : V} (h : valV kvs k = some x) : ∃ kv ∈ kvs, kv.2 = x := by
  unfold valV at h
  cases e : kvs.find? (fun kv => decide (kv.1 = k)) with
  | none => rw [e] at h; cases h
  | some kv => rw [e] at h; cases h; exact ⟨kv, List.mem_of_find?_eq_some e, rfl⟩
theorem get_mem {j : Nat} (h : hasK kvs j = true) : ∃ kv ∈ kvs, kv.2 = getK kvs j := valV_memV (has_get h)
theorem lenD {p : Addr} (h : H p = some (.dK kvs)) (q : Q (.int kvs.length) H) : bLenG (gg K S) [.ref p] H Q := by
  rw [len_dK rfl h]
  exact q
theorem fnd_drop {l : List Nat} {p : Nat → Bool} {j : Nat} (hj : j < l.length) : (l.drop j).find? p = if p l[j] = true then some l[j] else (l.drop (j+1)).find? p := by
  rw [List.drop_eq_getElem_cons hj, List.find?_cons]
  cases p l[j] <;> rfl
theorem fnd_fil {p q : Nat → Bool} : ∀ l : List Nat, (l.filter p).find? q = l.find? fun j => p j && q j
  | [] => rfl
  | x :: l => by
    rw [List.filter_cons, List.find?_cons]
    cases hp : p x with
    | true =>
      rw [if_pos rfl, List.find?_cons, Bool.true_and, fnd_fil l]
    | false =>
      rw [if_neg (by decide), Bool.false_and, fnd_fil l]
/-- [.. for i in range(k) if ..] -/
theorem lc_rg {k : Nat} {f : Nat → Bool} {g : Nat → V} {i : Nat} {σ τ : L2.St} {tt : L2.TT} {te : TE} (hk : k ≤ 900)
    (hf : ∀ (j : Nat) H1 (R : Bool → Hp → Prop), j < k → Ex H H1 → R (f j) H1 → tt (τ.set i (some (.int (j : Nat)))) H1 R)
    (hg : ∀ (j : Nat) H1 (R : VK), j < k → f j = true → Ex H H1 → R (g j) H1 → te (τ.set i (some (.int (j : Nat)))) H1 R)
    (h : ∀ D H', Ex H H' → H D = none → H' D = some (.lst (((List.range k).filter f).map g)) → Q (.ref D) H') (ht : wipe σ [i] = τ) (hw : ∀ v, wipe (τ.set i (some v)) [i] = τ) {D : Addr} (hD : H D = none) :
    ∃ n, lpc (Itr 0 k) (gName i) tt te [i] σ D Q n 0 (upd H D (.lst [])) := by
  refine lpc_inv (n := k) (fun j H' => Ex H H' ∧ H' D = some (.lst (((List.range j).filter f).map g))) ?_ ?_ ⟨Ex.refl.new hD, by rw [upd_same]; rfl⟩
  · rintro H' ⟨h1, h2⟩
    exact ⟨Nat.le_refl _, h D H' h1 hD h2⟩
  · rintro j H' hj ⟨h1, h2⟩ R hR
    refine ⟨hj, ?_⟩
    rintro x H2 hy
    obtain ⟨rfl, rfl⟩ := itr_yld hy
    rw [ht]
    refine ⟨hw _, ?_⟩
    rw [show (0 : Int) + (j : Int) = (j : Nat) from Int.zero_add _]
    refine hf j _ _ hj h1 ?_
    have ex2 : ∀ x : HO, Ex H (upd H2 D x) := fun x a o e => by
      by_cases hb : a = D
      · subst hb; rw [hD] at e; cases e
      · rw [upd_ne hb]; exact h1 a o e
    cases q : f j with
    | true =>
      simp only [if_true]
      refine hg j _ _ hj q h1 ?_
      refine ⟨_, h2, ?_, hR _ ⟨ex2 _, ?_⟩⟩
      · rw [List.length_map]
        have := List.length_filter_le f (List.range j)
        rw [List.length_range] at this
        rw [sizeLine_eq]
        omega
      · rw [upd_same, List.range_succ, List.filter_append, List.map_append]
        simp [q]
    | false =>
      simp only [Bool.false_eq_true, if_false]
      refine hR _ ⟨h1, ?_⟩
      rw [h2, List.range_succ, List.filter_append]
      simp [q]
end
end WR.L

set_option Elab.async false
set_option linter.all false
set_option maxRecDepth 100000
set_option maxHeartbeats 400000
namespace WR.L
open PySem PySem.Spec PyProof.Rows L2
section
variable {K : PySem.W.Frag} {n : Nat} {H H' : Hp} {Q : VK} {E : XK} {v w mv : V} {N : Nat} {σ : L2.St} {D : Ends} {xs : List V} {ks : Str} {c : CD} {m : String} {mo : Option (List Int)} {kvs : List (Key × V)} {S : Str → Sp}
theorem clc1_ {ta : TA} {g : TG} {tt : L2.TT} {te : TE} {vs : List Nat} (h : ta σ H fun vs' H1 => match vs' with
    | [.int j] => (-(2 ^ 62) ≤ j ∧ j < 2 ^ 62) ∧ ∀ D, H1 D = none → ∃ n, lpc (Itr 0 j.toNat) g tt te vs σ D Q n 0 (upd H1 D (.lst []))
    | _ => False) : cLc (cRng1 ta) g tt te vs σ H Q := by
  simp only [cLc, cRng1]
  exact h
theorem clcl_ {g : TG} {tt : L2.TT} {te2 : TE} {vs : List Nat} {p : Addr} {i : Nat} (hi : σ[i]? = some (some (.ref p))) (h : H p = some (.lst xs)) (q : ∀ D, H D = none → ∃ n, lpc (Itl K p) g tt te2 vs σ D Q n 0 (upd H D (.lst []))) : cLcL (cIter K (frzE (cVar i))) g tt te2 vs σ H Q := by
  refine .inl ?_
  simp only [cLc, cIter, frzE]
  refine var_ hi ?_
  simp only [h, look_of_lst (K := K) h]
  exact q
/-- .. over a list; the name may have stood for something -/
theorem lc_lw {l : Addr} {xs : List V} {f : V → V} {i : Nat} {σ τ : L2.St} {te : TE} (hl : H l = some (.lst xs)) (hx : xs.length ≤ 900)
    (hf : ∀ x H1 (R : VK), x ∈ xs → Ex H H1 → R (f x) H1 → te (τ.set i (some x)) H1 R)
    (h : ∀ D H', Ex H H' → H D = none → H' D = some (.lst (xs.map f)) → Q (.ref D) H') (ht : wipe σ [i] = τ) (hw : ∀ v, wipe (τ.set i (some v)) [i] = τ) {D : Addr} (hD : H D = none) :
    ∃ n, lpc (Itl K l) (gName i) tYes te [i] σ D Q n 0 (upd H D (.lst [])) := by
  refine lpc_inv (n := xs.length) (fun j H' => Ex H H' ∧ H' D = some (.lst ((xs.take j).map f))) ?_ ?_ ⟨Ex.refl.new hD, by rw [upd_same]; rfl⟩
  · rintro H1 ⟨e1, k1⟩
    refine ⟨itl_stop (e1 _ _ hl) (Nat.le_refl _), h D H1 e1 hD ?_⟩
    rw [k1, List.take_of_length_le (Nat.le_refl _)]
  · rintro j H1 hj ⟨e1, k1⟩ R hR
    refine ⟨itl_go (e1 _ _ hl) hj, ?_⟩
    intro x H2 hy
    obtain ⟨rfl, hx2⟩ := itl_yld (e1 _ _ hl) hy
    rw [ht]
    refine ⟨hw _, yes_ ?_⟩
    refine hf x _ _ (List.mem_of_getElem? hx2) e1 ?_
    refine ⟨_, k1, by rw [List.length_map, List.length_take]; exact small1000 (by omega), hR _ ⟨e1.new hD, ?_⟩⟩
    rw [upd_same, List.take_add_one, hx2, List.map_append]
    rfl
theorem inV_ints {j : Nat} : ∀ T : List Nat, inV (.int (j : Nat)) (T.map fun (i : Nat) => V.int (i : Nat)) = decide (j ∈ T)
  | [] => rfl
  | x :: r => by
    have ih := inV_ints (j := j) r
    have h1 : inV (.int (j : Nat)) ((x :: r).map fun (i : Nat) => V.int (i : Nat)) = (eqV (.int (x : Nat)) (.int (j : Nat)) || inV (.int (j : Nat)) (r.map fun (i : Nat) => V.int (i : Nat))) := rfl
    rw [h1, ih]
    have h2 : eqV (.int (x : Nat)) (.int (j : Nat)) = decide (x = j) := by
      by_cases e : x = j
      · subst e; rw [decide_eq_true rfl]; exact decide_eq_true rfl
      · rw [decide_eq_false e]; exact decide_eq_false fun z => e (by have : (x : Int) = (j : Int) := by simpa using z
                                                                     omega)
    rw [h2]
    by_cases e : x = j
    · subst e; simp
    · have e2 : ¬ j = x := fun z => e z.symm
      rw [decide_eq_false e, Bool.false_or, decide_eq_decide]
      simp [e2]
theorem in_ints {p : Addr} {T : List Nat} {j : Nat} {b : Bool} (h : H p = some (.lst (T.map fun (i : Nat) => V.int (i : Nat)))) (q : Q (.bl (b ^^ decide (j ∈ T))) H) : oIn K b (.int (j : Nat)) (.ref p) H Q := by
  simp only [oIn, look_of_lst (K := K) h]
  refine .inl ⟨rfl, ?_, by rw [inV_ints]; exact q⟩
  rw [List.all_eq_true]
  intro x hx
  obtain ⟨i, _, rfl⟩ := List.mem_map.mp hx
  rfl
theorem dpNats : ∀ is : List Nat, DpAll K H (is.map fun (i : Nat) => V.int (i : Nat)) (is.map fun (i : Nat) => PyData.int (i : Nat))
  | [] => .nil
  | i :: is => .cons (.int _) (dpNats is)
theorem shaped_nats (is : List Nat) : SeqAt.shaped (.list (is.map fun (i : Nat) => PyData.int (i : Nat))) = true := by
  have h1 : ∀ is : List Nat, PyData.canLayAll0 (is.map fun (i : Nat) => PyData.int (i : Nat)) = true := fun is => by
    induction is with
    | nil => rfl
    | cons a r ih => simp only [List.map_cons, PyData.canLayAll0, ih, Bool.and_true]; rfl
  have h2 : ∀ is : List Nat, PyData.depthAll (is.map fun (i : Nat) => PyData.int (i : Nat)) = 0 := fun is => by
    induction is with
    | nil => rfl
    | cons a r ih => simp only [List.map_cons, PyData.depthAll, ih, PyData.depth]; rfl
  unfold SeqAt.shaped
  simp only [PyData.canLay0, PyData.depth, h1, h2, Bool.true_and]
  rfl
theorem ne_nilI {a b : Addr} {is : List Nat} (ha : H a = some (.lst (is.map fun (i : Nat) => V.int (i : Nat)))) (hb : H b = some (.lst [])) (q : Q (.bl (!is.isEmpty)) H) : oNeG (gg K S) (.ref a) (.ref b) H Q := by
  refine ne_dp (ins_lst (look_of_lst (K := K) ha)) (.lst (.inl (.inl ha)) (dpNats is)) (.lst (.inl (.inl hb)) .nil) (shaped_nats is) (shaped_nats []) ?_
  have : PyData.eqv (.list (is.map fun (i : Nat) => PyData.int (i : Nat))) (.list []) = is.isEmpty := by cases is <;> rfl
  rw [this]; exact q
theorem fit_of {ms : List Int} {j : Nat} {x : V} (h : fitF (some ms) (.int (j : Nat)) x = true) : ∃ s, x = .str s ∧ s.length ≤ 8 := by
  cases x with
  | str s => exact ⟨s, rfl, (fit_str h).2.2.2.1⟩
  | _ => cases h
theorem join_pieces {f : Nat → V} {k : Nat} (h : ∀ j, j < k → ∃ s, f j = .str s ∧ s.length ≤ 8) (hk : k ≤ 900) : (List.range k).map f = ((List.range k).map fun j => strOf (f j)).map V.str ∧ ((((List.range k).map fun j => strOf (f j))).map (·.length)).sum + ((List.range k).map fun j => strOf (f j)).length * ("" : Str).length ≤ 16777216 := by
  constructor
  · rw [List.map_map]
    refine List.map_congr_left fun j hj => ?_
    obtain ⟨s, e, _⟩ := h j (List.mem_range.mp hj)
    show f j = V.str (strOf (f j))
    rw [e]; rfl
  · have := sum_le (l := (List.range k).map fun j => strOf (f j)) (b := 8) fun s hs => by
      obtain ⟨j, hj, rfl⟩ := List.mem_map.mp hs
      obtain ⟨s, e, hl⟩ := h j (List.mem_range.mp hj)
      show (strOf (f j)).length ≤ 8
      rw [e]; exact hl
    rw [List.length_map, List.length_range] at this ⊢
    rw [show ("" : Str).length = 0 from rfl]
    omega
/-- where none is bad and none lacks, all fit -/
theorem all_fit {ms : List Int} (h1 : (List.range ms.length).find? (badK (some ms) kvs) = none) (h2 : ((List.range ms.length).filter fun j => !hasK kvs j).isEmpty = true) : ∀ j, j < ms.length → hasK kvs j = true ∧ fitF (some ms) (.int (j : Nat)) (getK kvs j) = true := by
  intro j hj
  have hm := List.mem_range.mpr hj
  have a := List.find?_eq_none.mp h1 j hm
  have b : hasK kvs j = true := by
    cases e : hasK kvs j with
    | true => rfl
    | false =>
      have : j ∈ (List.range ms.length).filter fun j => !hasK kvs j := List.mem_filter.mpr ⟨hm, by rw [e]; rfl⟩
      rw [List.isEmpty_iff.mp h2] at this
      cases this
  unfold badK at a
  rw [b, Bool.true_and, Bool.not_eq_true, Bool.not_eq_false'] at a
  exact ⟨b, a⟩
theorem s_whole_text (hc : CdH H v ks c) (oc : OkC ks c) (hk : ChH H w kvs) (hl : kvs.length ≤ 100) (hx : ∀ kv ∈ kvs, Cm H kv.2) (r : WRf K H ks Q E (wholeF c.m kvs)) : SP K (n+6) "whole_text" [v, w] H Q E := by
  refine o_whole_text ?_
  unfold r_whole_text
  refine seq_ fun N1 h1 => drop_ (call1_ rfl (s_need_card (n := n + 1) (hc.tre oc).lk (fun _ H1 e1 => h1 _ _ ?_) fun z => (z (crd_of hc oc)).elim))
  have hc1 := hc.ex e1
  obtain ⟨w0, rfl, hw0⟩ := hk.ex e1
  have r1 := r.ex e1
  have hx1 : ∀ kv ∈ kvs, Cm H1 kv.2 := fun kv h => (hx kv h).ex e1
  clear r hx e1 hk hc
  obtain ⟨q0, mv, rfl, hq0, hm⟩ := hc1
  refine seq_ fun N2 h2 => ifS_ fun A B hA hB => or_ (not_ (cb_ (cva_ rfl (con_ (nil_ (isi_k (Kd.dK hw0) (by decide) ?_))))))
  simp only [show isK "dict" "dict" = true from rfl, oTru, Bool.not_true, Bool.false_eq_true, if_false]
  refine test_ (op_ (cb_ (cva_ rfl (nil_ (lenD hw0 (const_ ?_))))))
  simp only [oGtK, oGt]
  rw [decide_eq_false (by omega : ¬ (100 : Int) < (kvs.length : Int))]
  simp only [Bool.false_eq_true, if_false]
  refine hB _ (next_ (h2 _ _ ?_))
  refine seq_ fun N3 h3 => ifS_ fun A B hA hB => test_ (op_ (op_ (var_ rfl (const_ (idx3 hq0 (const_ ?_))))))
  obtain ⟨i0, b0, mo⟩ := c
  have hc1 : CdH H1 (.ref q0) ks ⟨i0, b0, mo⟩ := ⟨q0, mv, rfl, hq0, hm⟩
  cases mo with
  | none =>
    obtain rfl : mv = .non := hm
    simp only [oIs, decide_true, if_true]
    refine hA _ ?_
    simp only [tRs, tMkX]
    refine op_ (var_ rfl (const_ (idx0 hq0 ?_)))
    exact fun x hx => r1 x _ (Ex.refl.new hx) upd_same
  | some ms =>
    obtain ⟨q, rfl, hq⟩ := hm
    have hml : ms.length ≤ 8 := oc.2.2.2.1
    simp only [oIs, reduceCtorEq, decide_false, Bool.false_eq_true, if_false]
    refine hB _ (next_ (h3 _ _ ?_))
    refine seq_ fun N4 h4 => asg_ (.inl (clc1_ (cons_ (cb_ (cons_ (op_ (var_ rfl (const_ (idx3 hq0 (nil_ (lenT hq (nil_ ?_))))))))))))
    rw [List.length_map]
    refine ⟨⟨by omega, by omega⟩, fun D hD => ?_⟩
    rw [show ((ms.length : Nat) : Int).toNat = ms.length from by omega]
    refine lc_rg (k := ms.length) (f := hasK kvs) (g := fun (j : Nat) => V.int (j : Nat)) (by omega) (fun j H2 R hj e q => test_ (op_ (var_ rfl (var_ rfl (in_kv (e _ _ hw0) (by rw [Bool.false_xor]; exact q)))))) (fun j H2 R hj _ e q => var_ rfl q) (fun D4 H4 e4 hD4 k4 => ?_) rfl (fun v => rfl) hD
    simp only [List.set_cons_zero, List.set_cons_succ]
    refine h4 _ _ ?_
    have fd : (List.range ms.length).find? (badK (some ms) kvs) = ((List.range ms.length).filter (hasK kvs)).find? (fun j => !fitF (some ms) (.int (j : Nat)) (getK kvs j)) := (fnd_fil _).symm
    generalize hT : (List.range ms.length).filter (hasK kvs) = T at k4 fd
    have hTm : ∀ j, j ∈ T ↔ j < ms.length ∧ hasK kvs j = true := fun j => by rw [← hT, List.mem_filter, List.mem_range]
    refine seq_ fun N5 h5 => for_ (var_ rfl (cit_lst k4 ?_))
    refine lp_inv (n := T.length) (fun j σ H' => (∃ x3, σ = [some (.ref q0), some (.ref w0), some (.ref D4), x3, none]) ∧ Ex H4 H' ∧ T.find? (fun j => !fitF (some ms) (.int (j : Nat)) (getK kvs j)) = (T.drop j).find? (fun j => !fitF (some ms) (.int (j : Nat)) (getK kvs j))) ?_ ?_ ⟨⟨_, rfl⟩, Ex.refl, rfl⟩
    · rintro σ H5 ⟨⟨x3, rfl⟩, e5, he⟩
      refine ⟨itl_stop (e5 _ _ k4) (by simp), h5 _ _ ?_⟩
      rw [List.drop_length, List.find?_nil, ← fd] at he
      have e15 := e4.trans e5
      refine seq_ fun N6 h6 => .inl (asg_ (clc1_ (cons_ (cb_ (cons_ (op_ (var_ rfl (const_ (idx3 (e15 _ _ hq0) (nil_ (lenT (e15 _ _ hq) (nil_ ?_))))))))))))
      rw [List.length_map]
      refine ⟨⟨by omega, by omega⟩, fun D hD => ?_⟩
      rw [show ((ms.length : Nat) : Int).toNat = ms.length from by omega]
      refine lc_rg (k := ms.length) (f := fun j => !decide (j ∈ T)) (g := fun (j : Nat) => V.int (j : Nat)) (by omega) (fun j H2 R hj e q => test_ (op_ (var_ rfl (var_ rfl (in_ints (e _ _ (e5 _ _ k4)) (by rw [Bool.true_xor]; exact q)))))) (fun j H2 R hj _ e q => var_ rfl q) (fun D6 H6 e6 hD6 k6 => ?_) rfl (fun v => rfl) hD
      simp only [List.set_cons_zero, List.set_cons_succ]
      refine h6 _ _ ?_
      have fl : ((List.range ms.length).filter fun j => !decide (j ∈ T)) = (List.range ms.length).filter fun j => !hasK kvs j := by
        refine List.filter_congr fun j hj => ?_
        have := hTm j
        rw [Bool.eq_iff_iff]
        simp only [Bool.not_eq_true', decide_eq_false_iff_not, this, List.mem_range.mp hj, true_and, Bool.not_eq_true]
      rw [fl] at k6
      have rr := r1.ex (e15.trans e6)
      have hw6 : wholeF (some ms) kvs = if ((List.range ms.length).filter fun j => !hasK kvs j).isEmpty = true then .text (txtW kvs ms.length) else .lacks ((List.range ms.length).filter fun j => !hasK kvs j) := by
        simp only [wholeF, he]
      rw [hw6] at rr
      refine seq_ fun N7 h7 => ifS_ fun A B hA hB => test_ (op_ (var_ rfl (lst_ (nil_ ⟨by rw [sizeLine_eq]; simp, fun D7 hD7 => ?_⟩))))
      have e7 : Ex H6 (upd H6 D7 (.lst [])) := Ex.refl.new hD7
      refine ne_nilI (e7 _ _ k6) upd_same ?_
      have k67 := e7 _ _ k6
      generalize upd H6 D7 (.lst []) = H7 at e7 k67
      cases hlk : ((List.range ms.length).filter fun j => !hasK kvs j).isEmpty with
      | false =>
        rw [hlk, if_neg (by decide)] at rr
        simp only [Bool.not_false, if_true]
        refine hA _ ?_
        simp only [tRs, tMkX]
        refine var_ rfl ?_
        exact fun x hx => rr x _ _ (e7.trans (Ex.refl.new hx)) upd_same ((Ex.refl.new hx) _ _ k67)
      | true =>
        rw [hlk, if_pos rfl] at rr
        simp only [Bool.not_true, Bool.false_eq_true, if_false]
        refine hB _ (next_ (h7 _ _ (ret_ ?_)))
        have af := all_fit he hlk
        refine mC_blt ?_ fun P P' hh q => mono_C hh q
        refine ⟨rfl, "str", rfl, _, b_join, cons_ ?_⟩
        have e47 := (e5.trans e6).trans e7
        refine clcl_ rfl (e47 _ _ k4) fun D8 hD8 => ?_
        have hTT : T = List.range ms.length := by
          rw [← hT]
          exact List.filter_eq_self.mpr fun j hj => (af j (List.mem_range.mp hj)).1
        refine lc_lw (τ := [some (.ref q0), some (.ref w0), some (.ref D4), none, some (.ref D6)]) (f := fun x => match x with | .int i => getK kvs i.toNat | _ => .non) (e47 _ _ k4) (by rw [List.length_map, hTT, List.length_range]; omega) (fun x H8 R hx e8 q => ?_) (fun D9 H9 e9 hD9 k9 => nil_ ?_) rfl (fun v => rfl) hD8
        · obtain ⟨j, hj, rfl⟩ := List.mem_map.mp hx
          refine op_ (var_ rfl (var_ rfl (ix_kv (((e4.trans e47).trans e8) _ _ hw0) ((hTm j).mp hj).2 ?_)))
          exact q
        · rw [hTT, List.map_map] at k9
          have jp := join_pieces (f := getK kvs) (k := ms.length) (fun j hj => fit_of (af j hj).2) (by omega)
          refine join_ (ys := (List.range ms.length).map fun j => strOf (getK kvs j)) ?_ jp.2 ?_
          · rw [← jp.1, k9]
            rfl
          · exact rr _ (e7.trans e9)
    · rintro j σ H5 hj ⟨⟨x3, rfl⟩, e5, he⟩ R hR
      refine ⟨itl_go (e5 _ _ k4) (by simpa using hj), ?_⟩
      intro y H6 hy
      obtain ⟨rfl, hy2⟩ := itl_yld (e5 _ _ k4) hy
      have hj2 : j < T.length := hj
      have ey : y = .int (T[j] : Nat) := by
        rw [List.getElem?_map, List.getElem?_eq_getElem hj2] at hy2
        exact (Option.some.inj hy2).symm
      subst ey
      refine ifS_ fun A B hA hB => not_ (call_ (cva_ rfl (cva_ rfl (cons_ (op_ (var_ rfl (var_ rfl (ix_kv ((e4.trans e5) _ _ hw0) ((hTm _).mp (List.getElem_mem hj2)).2 (nil_ (nil_ ⟨rfl, rfl, ?_⟩))))))))))
      obtain ⟨kv, hkv, ekv⟩ := get_mem ((hTm _).mp (List.getElem_mem hj2)).2
      obtain ⟨m3, k3, o3⟩ := (hx1 kv hkv).ex (e4.trans e5)
      rw [ekv] at k3 o3
      refine s_fits (n := n) (hc1.ex (e4.trans e5)) oc (.int _) k3 o3 fun H7 e7 => ?_
      rw [fnd_drop hj2] at he
      cases hf : fitF (some ms) (.int (T[j] : Nat)) (getK kvs T[j]) with
      | true =>
        rw [hf, if_neg (by decide)] at he
        simp only [oTru, Bool.not_true, Bool.false_eq_true, if_false]
        exact hB _ (next_ (hR _ _ ⟨⟨_, rfl⟩, e5.trans e7, he⟩))
      | false =>
        rw [hf, if_pos (by decide)] at he
        simp only [oTru, Bool.not_false, if_true]
        refine hA _ ?_
        simp only [tRs, tMkX]
        refine var_ rfl ?_
        have rr := r1.ex ((e4.trans e5).trans e7)
        have hw6 : wholeF (some ms) kvs = .wrong T[j] := by
          simp only [wholeF, fd, he]
        rw [hw6] at rr
        exact fun x hx => rr x _ (Ex.refl.new hx) upd_same
/-- where it is no card -/
theorem s_whole_text_no (l : Lk H v) (nc : ¬ Crd H v) (r : Rf K H "NoCard" v E) : SP K (n+6) "whole_text" [v, w] H Q E := by
  refine o_whole_text ?_
  unfold r_whole_text
  exact seq_ fun N1 h1 => drop_ (call1_ rfl (s_need_card (n := n + 1) l (fun z => (nc z).elim) fun _ => r))
/-- where it is no dict, or too great a one -/
theorem s_whole_text_bad (hc : CdH H v ks c) (oc : OkC ks c) (k : Kd H w m) (hb : m ≠ "dict" ∨ ∃ kvs, ChH H w kvs ∧ 100 < kvs.length) (r : Rf K H "NoList" w E) : SP K (n+6) "whole_text" [v, w] H Q E := by
  refine o_whole_text ?_
  unfold r_whole_text
  refine seq_ fun N1 h1 => drop_ (call1_ rfl (s_need_card (n := n + 1) (hc.tre oc).lk (fun _ H1 e1 => h1 _ _ ?_) fun z => (z (crd_of hc oc)).elim))
  refine seq_ fun N2 h2 => ifS_ fun A B hA hB => or_ (not_ (cb_ (cva_ rfl (con_ (nil_ (isi_k (k.ex e1) (by decide) ?_))))))
  have bad : A H1 := hA _ (by
    simp only [tRs, tMkX, cVar, List.getElem?_cons_zero, List.getElem?_cons_succ]
    exact fun x hx => r x _ (e1.trans (Ex.refl.new hx)) upd_same)
  rcases hb with hb | ⟨kvs, ⟨p, rfl, hp⟩, hx⟩
  · rw [isK_no hb fun _ => by decide]
    simp only [oTru, Bool.not_false, if_true]
    exact bad
  · have hm : m = "dict" := by
      cases k with
      | dK h => rfl
      | lst h => rw [hp] at h; cases h
      | tup h => rw [hp] at h; cases h
    subst hm
    simp only [show isK "dict" "dict" = true from rfl, oTru, Bool.not_true, Bool.false_eq_true, if_false]
    refine test_ (op_ (cb_ (cva_ rfl (nil_ (lenD (e1 _ _ hp) (const_ ?_))))))
    simp only [oGtK, oGt]
    rw [decide_eq_true (by omega : (100 : Int) < (kvs.length : Int))]
    simp only [if_true]
    exact bad
end
end WR.L

set_option Elab.async false
set_option linter.all false
set_option maxRecDepth 100000
set_option maxHeartbeats 400000
namespace WR.L
open PySem PySem.Spec PyProof.Rows L2
section
variable {K : PySem.W.Frag} {n : Nat} {H H' : Hp} {Q : VK} {E : XK} {v w x mv : V} {N : Nat} {σ : L2.St} {D : Ends} {xs : List V} {ks : Str} {c : CD} {m : String} {mo : Option (List Int)} {kvs : List (Key × V)} {S : Str → Sp} {o : WO}
/-! ## what is due of a whole text -/
def TolH (H : Hp) (ks : Str) (o : WO) (x : V) : Prop := ∃ p, x = .ref p ∧ match o with
  | .away => H p = some (.tup [.str "away", .str ks])
  | .wrong j => H p = some (.tup [.str "wrong", .int (j : Nat)])
  | .lacks l => ∃ L, H p = some (.tup [.str "lacks", .ref L]) ∧ H L = some (.lst (l.map fun (j : Nat) => V.int (j : Nat)))
  | .text s => H p = some (.tup [.str "text", .str s])
theorem TolH.ex (e : Ex H H') (h : TolH H ks o x) : TolH H' ks o x := by
  obtain ⟨p, rfl, h⟩ := h
  refine ⟨p, rfl, ?_⟩
  cases o with
  | away => exact e _ _ h
  | wrong j => exact e _ _ h
  | lacks l => obtain ⟨L, a, b⟩ := h; exact ⟨L, e _ _ a, e _ _ b⟩
  | text s => exact e _ _ h
def tolD (ks : Str) : WO → PyData
  | .away => .tuple [.str "away", .str ks]
  | .wrong j => .tuple [.str "wrong", .int (j : Nat)]
  | .lacks l => .tuple [.str "lacks", .list (l.map fun (j : Nat) => PyData.int (j : Nat))]
  | .text s => .tuple [.str "text", .str s]
def OkO (ks : Str) : WO → Prop
  | .away => okSc (.str ks)
  | .wrong j => j < 1000
  | .lacks l => l.length ≤ 20 ∧ ∀ j ∈ l, j < 1000
  | .text s => okSc (.str s)
theorem sc_w {s : Str} (h1 : s.length ≤ 100) (h2 : ∀ c ∈ s.cps.toList, c < 128) : okSc (.str s) := ⟨h1, h2⟩
theorem sc_nat {j : Nat} (h : j < 1000) : okSc (.int (j : Nat)) := by
  show ((j : Nat) : Int).natAbs < 10 ^ 40
  rw [Int.natAbs_natCast]
  exact Nat.lt_trans h (by decide)
theorem dxNats : ∀ {is : List Nat} {ds : List PyData}, DxAll K H (is.map fun (j : Nat) => V.int (j : Nat)) ds → ds = is.map fun (j : Nat) => PyData.int (j : Nat)
  | [], _, h => by cases h; rfl
  | i :: is, _, h => by
    cases h with
    | cons a b => cases a; rw [dxNats b]; rfl
theorem TolH.th (h : TolH H ks o x) (ok : OkO ks o) : Th H 20 x := by
  obtain ⟨p, rfl, h⟩ := h
  have two : ∀ {a b : V}, H p = some (.tup [a, b]) → okSc a → okSc b → Th H 20 (.ref p) := fun h a b => .tt (.tup h (by simp) fun z hz => by
    simp only [List.mem_cons, List.not_mem_nil, or_false] at hz
    rcases hz with rfl | rfl
    · exact .sc a
    · exact .sc b)
  cases o with
  | away => exact two h (sc_w (by decide) (by decide)) ok
  | wrong j => exact two h (sc_w (by decide) (by decide)) (sc_nat ok)
  | text s => exact two h (sc_w (by decide) (by decide)) ok
  | lacks l =>
    obtain ⟨L, a, b⟩ := h
    refine .mix a (by simp) fun z hz => ?_
    simp only [List.mem_cons, List.not_mem_nil, or_false] at hz
    rcases hz with rfl | rfl
    · exact .inl (.sc (sc_w (by decide) (by decide)))
    · refine .inr ⟨L, _, rfl, b, by rw [List.length_map]; exact ok.1, fun z hz => ?_⟩
      obtain ⟨j, hj, rfl⟩ := List.mem_map.mp hz
      exact sc_nat (ok.2 j hj)
theorem dx_tup {p : Addr} {xs : List V} {d : PyData} (h : H p = some (.tup xs)) (dx : Dx K H (.ref p) d) : ∃ ds, d = .tuple ds ∧ DxAll K H xs ds := by
  cases dx with
  | lst e => rw [look_of_tup h] at e; cases e
  | tup e ha =>
    rw [look_of_tup h] at e
    cases e
    exact ⟨_, rfl, ha⟩
  | dic e =>
    rcases e with e | ⟨o, e⟩ <;> (rw [h] at e; cases e)
theorem dx_lst {p : Addr} {xs : List V} {d : PyData} (h : H p = some (.lst xs)) (dx : Dx K H (.ref p) d) : ∃ ds, d = .list ds ∧ DxAll K H xs ds := by
  cases dx with
  | tup e => rw [look_of_lst h] at e; cases e
  | lst e ha =>
    rw [look_of_lst h] at e
    cases e
    exact ⟨_, rfl, ha⟩
  | dic e =>
    rcases e with e | ⟨o, e⟩ <;> (rw [h] at e; cases e)
theorem TolH.dx {d : PyData} (h : TolH H ks o x) (dx : Dx K H x d) : d = tolD ks o := by
  obtain ⟨p, rfl, h⟩ := h
  cases o with
  | away =>
    obtain ⟨ds, rfl, a⟩ := dx_tup h dx
    cases a with | cons a b => cases b with | cons b c => cases c; cases a; cases b; rfl
  | wrong j =>
    obtain ⟨ds, rfl, a⟩ := dx_tup h dx
    cases a with | cons a b => cases b with | cons b c => cases c; cases a; cases b; rfl
  | text s =>
    obtain ⟨ds, rfl, a⟩ := dx_tup h dx
    cases a with | cons a b => cases b with | cons b c => cases c; cases a; cases b; rfl
  | lacks l =>
    obtain ⟨L, h, hL⟩ := h
    obtain ⟨ds, rfl, a⟩ := dx_tup h dx
    cases a with | cons a b => cases b with | cons b c =>
      cases c
      cases a
      obtain ⟨es, rfl, g⟩ := dx_lst hL b
      rw [dxNats g]
      rfl
theorem tol_repr (h : TolH H ks o x) (ok : OkO ks o) (q : Q (.str (tolD ks o).shown) H) : bRepr K [x] H Q := by
  obtain ⟨d, dx, sh⟩ := (h.th ok).dx (K := K) (by decide)
  have := h.dx dx
  subst this
  exact repr_d dx sh (by decide) (by decide) q
theorem join_cps (ys : List Str) : (Txt.join "" ys).cps.toList = (ys.map fun s => s.cps.toList).flatten := by
  show (Builtin.Str.glued "" ys).cps.toList = _
  rw [StrLaws.glued_eq_join]
  induction ys with
  | nil => rfl
  | cons a r ih =>
    cases r with
    | nil =>
      show a.cps.toList = _
      simp
    | cons b r =>
      show ((a ++ "") ++ Str.join "" (b :: r)).cps.toList = _
      rw [app_cps, app_cps, ih]
      show a.cps.toList ++ [] ++ _ = _
      rw [List.append_nil]
      rfl
theorem whole_ok (oc : OkC ks c) (hx : wholeF c.m kvs = o) : OkO ks o := by
  subst hx
  obtain ⟨i0, b0, mo⟩ := c
  cases mo with
  | none => exact isNm_sc oc.1
  | some ms =>
    have hml : ms.length ≤ 8 := oc.2.2.2.1
    show OkO ks (wholeF (some ms) kvs)
    cases hf : (List.range ms.length).find? (badK (some ms) kvs) with
    | some j =>
      have := List.mem_range.mp (List.mem_of_find?_eq_some hf)
      rw [show wholeF (some ms) kvs = .wrong j by simp only [wholeF, hf]]
      show j < 1000
      omega
    | none =>
      cases hlk : ((List.range ms.length).filter fun j => !hasK kvs j).isEmpty with
      | false =>
        rw [show wholeF (some ms) kvs = .lacks ((List.range ms.length).filter fun j => !hasK kvs j) by simp only [wholeF, hf, hlk, Bool.false_eq_true, if_false]]
        refine ⟨?_, fun j hj => ?_⟩
        · have := List.length_filter_le (fun j => !hasK kvs j) (List.range ms.length)
          rw [List.length_range] at this
          omega
        · have := List.mem_range.mp (List.mem_filter.mp hj).1
          omega
      | true =>
        rw [show wholeF (some ms) kvs = .text (txtW kvs ms.length) by simp only [wholeF, hf, hlk, if_true]]
        have af := all_fit hf hlk
        have st : ∀ s ∈ (List.range ms.length).map fun j => strOf (getK kvs j), s.length ≤ 8 ∧ s.cps.toList.all txC = true := fun s hs => by
          obtain ⟨j, hj, rfl⟩ := List.mem_map.mp hs
          have fj := (af j (List.mem_range.mp hj)).2
          obtain ⟨s, e, hl⟩ := fit_of fj
          rw [e] at fj ⊢
          exact ⟨hl, (fit_str fj).2.2.2.2.2.1⟩
        have e : txtW kvs ms.length = Txt.join "" ((List.range ms.length).map fun j => strOf (getK kvs j)) := rfl
        refine sc_w ?_ fun c hc => ?_
        · rw [len_cps, e, join_cps, List.length_flatten, List.map_map]
          have := sum_le (l := (List.range ms.length).map fun j => strOf (getK kvs j)) (b := 8) fun s hs => (st s hs).1
          rw [List.length_map, List.length_range] at this
          have e2 : List.map (List.length ∘ fun s => s.cps.toList) ((List.range ms.length).map fun j => strOf (getK kvs j)) = List.map (fun x => x.length) ((List.range ms.length).map fun j => strOf (getK kvs j)) := List.map_congr_left fun s _ => (len_cps s).symm
          rw [e2]
          omega
        · rw [e, join_cps] at hc
          obtain ⟨l, hl, hc⟩ := List.mem_flatten.mp hc
          obtain ⟨s, hs, rfl⟩ := List.mem_map.mp hl
          exact txC_small (List.all_eq_true.mp (st s hs).2 c hc)
end
end WR.L

set_option Elab.async false
set_option linter.all false
set_option maxRecDepth 100000
set_option maxHeartbeats 400000
namespace WR.L
open PySem PySem.Spec PyProof.Rows L2
section
variable {K : PySem.W.Frag} {n : Nat} {H H' : Hp} {Q : VK} {E : XK} {v w x mv : V} {N : Nat} {σ : L2.St} {D : Ends} {xs : List V} {ks : Str} {c : CD} {m : String} {mo : Option (List Int)} {kvs : List (Key × V)} {S : Str → Sp} {o : WO}
theorem rng1_ {ta : TA} {g : TG} {tb : TS} (h : ta σ H fun vs' H1 => match vs' with
    | [.int j] => (-(2 ^ 62) ≤ j ∧ j < 2 ^ 62) ∧ ∃ n, lp (Itr 0 j.toNat) g tb D n 0 σ H1
    | _ => False) : orL (cFor (cRng1 ta) g tb) D σ H := by
  refine .inl ?_
  simp only [cFor, cRng1]
  exact h
theorem s__law_whole_due (hc : CdH H v ks c) (oc : OkC ks c) (hk : ChH H w kvs) (hx : ∀ kv ∈ kvs, Cm H kv.2) (h : ∀ x H', Ex H H' → TolH H' ks (wholeF c.m kvs) x → Q x H') : SP K (n+4) "_law_whole_due" [v, w] H Q E := by
  refine o__law_whole_due ?_
  unfold r__law_whole_due
  obtain ⟨w0, rfl, hw0⟩ := hk
  obtain ⟨q0, mv, rfl, hq0, hm⟩ := hc
  refine seq_ fun N3 h3 => ifS_ fun A B hA hB => test_ (op_ (op_ (var_ rfl (const_ (idx3 hq0 (const_ ?_))))))
  obtain ⟨i0, b0, mo⟩ := c
  cases mo with
  | none =>
    obtain rfl : mv = .non := hm
    simp only [oIs, decide_true, if_true]
    refine hA _ (ret_ (tup_ (con_ (cons_ (op_ (var_ rfl (const_ (idx0 hq0 (nil_ ⟨by rw [sizeLine_eq]; simp, fun p hp => ?_⟩)))))))))
    exact h _ _ (Ex.refl.new hp) ⟨p, rfl, upd_same⟩
  | some ms =>
    obtain ⟨q, rfl, hq⟩ := hm
    have hml : ms.length ≤ 8 := oc.2.2.2.1
    have hmv : MvC H (.ref q) (some ms) := ⟨q, rfl, hq⟩
    simp only [oIs, reduceCtorEq, decide_false, Bool.false_eq_true, if_false]
    refine hB _ (next_ (h3 _ _ ?_))
    refine seq_ fun N4 h4 => rng1_ (cons_ (cb_ (cons_ (op_ (var_ rfl (const_ (idx3 hq0 (nil_ (lenT hq (nil_ ?_))))))))))
    rw [List.length_map]
    refine ⟨⟨by omega, by omega⟩, ?_⟩
    rw [show ((ms.length : Nat) : Int).toNat = ms.length from by omega]
    refine lp_inv (n := ms.length) (fun j σ H' => (∃ x2, σ = [some (.ref q0), some (.ref w0), x2, none]) ∧ Ex H H' ∧ (List.range ms.length).find? (badK (some ms) kvs) = ((List.range ms.length).drop j).find? (badK (some ms) kvs)) ?_ ?_ ⟨⟨_, rfl⟩, Ex.refl, rfl⟩
    · rintro σ H5 ⟨⟨x2, rfl⟩, e5, he⟩
      refine ⟨Nat.le_refl _, h4 _ _ ?_⟩
      rw [List.drop_of_length_le (by rw [List.length_range]; exact Nat.le_refl _), List.find?_nil] at he
      refine seq_ fun N6 h6 => .inl (asg_ (clc1_ (cons_ (cb_ (cons_ (op_ (var_ rfl (const_ (idx3 (e5 _ _ hq0) (nil_ (lenT (e5 _ _ hq) (nil_ ?_))))))))))))
      rw [List.length_map]
      refine ⟨⟨by omega, by omega⟩, fun D hD => ?_⟩
      rw [show ((ms.length : Nat) : Int).toNat = ms.length from by omega]
      refine lc_rg (τ := [some (.ref q0), some (.ref w0), none, none]) (k := ms.length) (f := fun j => !hasK kvs j) (g := fun (j : Nat) => V.int (j : Nat)) (by omega) (fun j H2 R hj e q => test_ (op_ (var_ rfl (var_ rfl (in_kv (e _ _ (e5 _ _ hw0)) (by rw [Bool.true_xor]; exact q)))))) (fun j H2 R hj _ e q => var_ rfl q) (fun D6 H6 e6 hD6 k6 => ?_) rfl (fun v => rfl) hD
      simp only [List.set_cons_zero, List.set_cons_succ]
      refine h6 _ _ ?_
      have rr := fun x H' (e : Ex H6 H') => h x H' ((e5.trans e6).trans e)
      have hw6 : wholeF (some ms) kvs = if ((List.range ms.length).filter fun j => !hasK kvs j).isEmpty = true then .text (txtW kvs ms.length) else .lacks ((List.range ms.length).filter fun j => !hasK kvs j) := by
        simp only [wholeF, he]
      rw [hw6] at rr
      refine seq_ fun N7 h7 => ifS_ fun A B hA hB => test_ (op_ (var_ rfl (lst_ (nil_ ⟨by rw [sizeLine_eq]; simp, fun D7 hD7 => ?_⟩))))
      have e7 : Ex H6 (upd H6 D7 (.lst [])) := Ex.refl.new hD7
      refine ne_nilI (e7 _ _ k6) upd_same ?_
      have k67 := e7 _ _ k6
      generalize upd H6 D7 (.lst []) = H7 at e7 k67
      cases hlk : ((List.range ms.length).filter fun j => !hasK kvs j).isEmpty with
      | false =>
        rw [hlk, if_neg (by decide)] at rr
        simp only [Bool.not_false, if_true]
        refine hA _ (ret_ (tup_ (con_ (cons_ (var_ rfl (nil_ ⟨by rw [sizeLine_eq]; simp, fun p hp => ?_⟩))))))
        exact rr _ _ (e7.trans (Ex.refl.new hp)) ⟨p, rfl, D6, upd_same, (Ex.refl.new hp) _ _ k67⟩
      | true =>
        rw [hlk, if_pos rfl] at rr
        simp only [Bool.not_true, Bool.false_eq_true, if_false]
        refine hB _ (next_ (h7 _ _ (ret_ (tup_ (con_ (cons_ ?_))))))
        have af := all_fit he hlk
        refine mC_blt ?_ fun P P' hh q => mono_C hh q
        refine ⟨rfl, "str", rfl, _, b_join, cons_ (.inl (clc1_ (cons_ (cb_ (cons_ (op_ (var_ rfl (const_ (idx3 ((e5.trans (e6.trans e7)) _ _ hq0) (nil_ (lenT ((e5.trans (e6.trans e7)) _ _ hq) (nil_ ?_)))))))))))) ⟩
        rw [List.length_map]
        refine ⟨⟨by omega, by omega⟩, fun D8 hD8 => ?_⟩
        rw [show ((ms.length : Nat) : Int).toNat = ms.length from by omega]
        have e57 := e5.trans (e6.trans e7)
        refine lc_rg (τ := [some (.ref q0), some (.ref w0), none, some (.ref D6)]) (k := ms.length) (f := fun j => true) (g := getK kvs) (by omega) (fun j H2 R hj e q => yes_ q) (fun j H8 R hj _ e8 q => op_ (var_ rfl (var_ rfl (ix_kv ((e57.trans e8) _ _ hw0) (af j hj).1 q)))) (fun D9 H9 e9 hD9 k9 => nil_ ?_) rfl (fun v => rfl) hD8
        rw [List.filter_eq_self.mpr fun _ _ => rfl] at k9
        have jp := join_pieces (f := getK kvs) (k := ms.length) (fun j hj => fit_of (af j hj).2) (by omega)
        refine ⟨(List.range ms.length).map fun j => strOf (getK kvs j), .inl (look_of_lst ?_), jp.2, ?_⟩
        · rw [← jp.1, k9]
        · exact nil_ ⟨by rw [sizeLine_eq]; simp, fun p hp => rr _ _ ((e7.trans e9).trans (Ex.refl.new hp)) ⟨p, rfl, upd_same⟩⟩
    · rintro j σ H5 hj ⟨⟨x2, rfl⟩, e5, he⟩ R hR
      refine ⟨hj, ?_⟩
      intro y H6 hy
      obtain ⟨rfl, rfl⟩ := itr_yld hy
      rw [show (0 : Int) + (j : Int) = (j : Nat) from Int.zero_add _]
      rw [fnd_drop (by rw [List.length_range]; exact hj), List.getElem_range] at he
      refine ifS_ fun A B hA hB => and2_ (test_ (op_ (var_ rfl (var_ rfl (in_kv (e5 _ _ hw0) ?_)))))
      rw [Bool.false_xor]
      cases hh : hasK kvs j with
      | false =>
        rw [show badK (some ms) kvs j = false from by unfold badK; rw [hh]; rfl, if_neg (by decide)] at he
        simp only [Bool.false_eq_true, if_false]
        exact hB _ (next_ (hR _ _ ⟨⟨_, rfl⟩, e5, he⟩))
      | true =>
        simp only [if_true]
        refine not_ (call_ (cons_ (op_ (var_ rfl (const_ (idx3 (e5 _ _ hq0) (cva_ rfl (cons_ (op_ (var_ rfl (var_ rfl (ix_kv (e5 _ _ hw0) hh (nil_ (nil_ ⟨rfl, rfl, ?_⟩))))))))))))))
        obtain ⟨kv, hkv, ekv⟩ := get_mem hh
        obtain ⟨m3, k3, o3⟩ := (hx kv hkv).ex e5
        rw [ekv] at k3 o3
        refine s__law_fits (n := n) (hmv.ex e5) (.int _) k3 o3 fun H7 e7 => ?_
        cases hf : fitF (some ms) (.int (j : Nat)) (getK kvs j) with
        | true =>
          rw [show badK (some ms) kvs j = false from by unfold badK; rw [hh, hf]; rfl, if_neg (by decide)] at he
          simp only [oTru, Bool.not_true, Bool.false_eq_true, if_false]
          exact hB _ (next_ (hR _ _ ⟨⟨_, rfl⟩, e5.trans e7, he⟩))
        | false =>
          rw [show badK (some ms) kvs j = true from by unfold badK; rw [hh, hf]; rfl, if_pos rfl] at he
          simp only [oTru, Bool.not_false, if_true]
          refine hA _ (ret_ (tup_ (con_ (cons_ (var_ rfl (nil_ ⟨by rw [sizeLine_eq]; simp, fun p hp => ?_⟩))))))
          have hw6 : wholeF (some ms) kvs = .wrong j := by
            simp only [wholeF, he]
          refine h _ _ ((e5.trans e7).trans (Ex.refl.new hp)) ?_
          show TolH _ ks (wholeF (some ms) kvs) _
          rw [hw6]
          exact ⟨p, rfl, upd_same⟩
end
end WR.L

set_option Elab.async false
set_option linter.all false
set_option maxRecDepth 100000
set_option maxHeartbeats 400000
namespace WR.L
open PySem PySem.Spec PyProof.Rows L2
section
variable {K : PySem.W.Frag} {n : Nat} {H H' : Hp} {Q : VK} {E : XK} {v w x mv : V} {N : Nat} {σ : L2.St} {D : Ends} {xs : List V} {ks : Str} {c : CD} {m : String} {mo : Option (List Int)} {kvs : List (Key × V)} {S : Str → Sp} {o : WO}
/-- its text, now and later -/
def RpD (K : PySem.W.Frag) (H : Hp) (w : V) (t : Str) : Prop := ∀ H', Ex H H' → ∀ Q : VK, Q (.str t) H' → bRepr K [w] H' Q
theorem RpD.ex {t : Str} (e : Ex H H') (h : RpD K H w t) : RpD K H' w t := fun H1 e1 => h H1 (e.trans e1)
theorem s__law_whole_right (hX : Hx K) (hc : CdH H v ks c) (oc : OkC ks c) (hk : ChH H w kvs) (hl : kvs.length ≤ 100) (hcm : ∀ kv ∈ kvs, Cm H kv.2) (hr : ∃ t, RpD K H w t) (h : ∀ H', Ex H H' → Q (.bl true) H') : SP K (n+7) "_law_whole_right" [v, w] H Q E := by
  refine o__law_whole_right ?_
  unfold r__law_whole_right
  obtain ⟨t, hr⟩ := hr
  refine seq_ fun N1 h1 => asg_ (call_ (cva_ rfl (cva_ rfl (nil_ (nil_ ⟨rfl, rfl, s__law_whole_due (n := n + 2) hc oc hk hcm fun due H1 e1 td => h1 _ _ ?_⟩)))))
  simp only [List.set_cons_zero, List.set_cons_succ]
  refine seq_ fun N2 h2 => asg_ (cb_ (cva_ rfl (nil_ (hr _ e1 _ (h2 _ _ ?_)))))
  simp only [List.set_cons_zero, List.set_cons_succ]
  refine seq_ fun N3 h3 => asg_ (tup_ (con_ (con_ (nil_ ⟨by rw [sizeLine_eq]; simp, fun p hp => h3 _ _ ?_⟩))))
  simp only [List.set_cons_zero, List.set_cons_succ]
  have e2 : Ex H1 (upd H1 p (.tup [.str "other", .non])) := Ex.refl.new hp
  generalize upd H1 p (.tup [.str "other", .non]) = H2 at e2
  have ok : OkO ks (wholeF c.m kvs) := whole_ok oc rfl
  refine seq_ fun N4 h4 => ?_
  have fin : ∀ told H4, Ex H2 H4 → TolH H4 ks (wholeF c.m kvs) told → N4 [some v, some w, some due, some (.str t), some told, none] H4 := fun told H4 e4 ht => by
    refine h4 _ _ (ret_ (and_ (op_ (cb_ (cva_ rfl (nil_ (tol_repr ht ok (cb_ (cva_ rfl (nil_ (tol_repr (td.ex (e2.trans e4)) ok (eq_scal rfl rfl rfl ?_))))))))))))
    rw [decide_eq_true rfl]
    simp only [oTru]
    refine op_ (cb_ (cva_ rfl (nil_ (hr _ (e1.trans (e2.trans e4)) _ (var_ rfl (eq_scal rfl rfl rfl ?_))))))
    rw [decide_eq_true rfl]
    exact h _ (e1.trans (e2.trans e4))
  simp only [tTryW]
  have e12 := e1.trans e2
  refine asg_ (tup_ (con_ (cons_ (call_ (cva_ rfl (cva_ rfl (nil_ (nil_ ⟨rfl, rfl, s_whole_text (n := n) (hc.ex e12) oc (hk.ex e12) hl (fun kv z => (hcm kv z).ex e12) ?_⟩))))))))
  cases e : wholeF c.m kvs with
  | text s =>
    intro H4 e4
    refine nil_ ⟨by rw [sizeLine_eq]; simp, fun p hp => fin _ _ (e4.trans (Ex.refl.new hp)) ?_⟩
    rw [e]
    exact ⟨p, rfl, upd_same⟩
  | away =>
    intro x H4 e4 hx4
    obtain ⟨f1, f2, f3⟩ := xcX_ok hX.xAway
    refine ⟨true, f1 (He.ga K "Away", true) (List.mem_of_getElem? (i := 0) rfl), fun _ a ha => ?_, fun q => nomatch q⟩
    refine asg_ (tup_ (con_ (cons_ ⟨rfl, ⟨"Away", He.ga K "Away", "found"⟩, by rw [xcs_all]; exact List.mem_of_getElem? (i := 3) rfl, rfl, rfl, x, [("found", .str ks)], .str ks, rfl, hx4, rfl, nil_ ⟨by rw [sizeLine_eq]; simp, fun p hp => ?_⟩⟩)))
    refine fin _ _ (e4.trans (Ex.refl.new hp)) ?_
    rw [e]
    exact ⟨p, rfl, upd_same⟩
  | wrong j =>
    intro x H4 e4 hx4
    obtain ⟨f1, f2, f3⟩ := xcX_ok hX.xWrongPiece
    refine ⟨false, f1 (He.ga K "Away", false) (List.mem_of_getElem? (i := 0) rfl), (fun q => nomatch q), fun _ => ?_⟩
    refine ⟨true, f1 (He.ga K "WrongPiece", true) (List.mem_of_getElem? (i := 1) rfl), fun _ a ha => ?_, fun q => nomatch q⟩
    refine asg_ (tup_ (con_ (cons_ ⟨rfl, ⟨"WrongPiece", He.ga K "WrongPiece", "at"⟩, by rw [xcs_all]; exact List.mem_of_getElem? (i := 5) rfl, rfl, rfl, x, [("at", .int (j : Nat))], .int (j : Nat), rfl, hx4, rfl, nil_ ⟨by rw [sizeLine_eq]; simp, fun p hp => ?_⟩⟩)))
    refine fin _ _ (e4.trans (Ex.refl.new hp)) ?_
    rw [e]
    exact ⟨p, rfl, upd_same⟩
  | lacks l =>
    intro x L H4 e4 hx4 hL
    obtain ⟨f1, f2, f3⟩ := xcX_ok hX.xLacks
    refine ⟨false, f1 (He.ga K "Away", false) (List.mem_of_getElem? (i := 0) rfl), (fun q => nomatch q), fun _ => ?_⟩
    refine ⟨false, f1 (He.ga K "WrongPiece", false) (List.mem_of_getElem? (i := 1) rfl), (fun q => nomatch q), fun _ => ?_⟩
    refine ⟨true, f1 (He.ga K "Lacks", true) (List.mem_of_getElem? (i := 2) rfl), fun _ a ha => ?_, fun q => nomatch q⟩
    refine asg_ (tup_ (con_ (cons_ ⟨rfl, ⟨"Lacks", He.ga K "Lacks", "found"⟩, by rw [xcs_all]; exact List.mem_of_getElem? (i := 4) rfl, rfl, rfl, x, [("found", .ref L)], .ref L, rfl, hx4, rfl, nil_ ⟨by rw [sizeLine_eq]; simp, fun p hp => ?_⟩⟩)))
    refine fin _ _ (e4.trans (Ex.refl.new hp)) ?_
    rw [e]
    exact ⟨p, rfl, L, upd_same, (Ex.refl.new hp) _ _ hL⟩
end
end WR.L

set_option Elab.async false
set_option linter.all false
set_option maxRecDepth 100000
set_option maxHeartbeats 400000
namespace WR.L
open PySem PySem.Spec PyProof.Rows L2
section
variable {K : PySem.W.Frag} {n : Nat} {H H' : Hp} {Q : VK} {E : XK} {v w x : V} {N : Nat} {σ : L2.St} {D : Ends} {xs : List V} {S : Str → Sp} {b : Addr}
/-! ## one sign turned -/
def TxA (s : Str) : Prop := ∀ c ∈ s.cps.toList, txC c = true
theorem TxA.app {a b : Str} (h : TxA a) (k : TxA b) : TxA (a ++ b) := fun c hc => by
  rw [app_cps, List.mem_append] at hc
  exact hc.elim (h c) (k c)
theorem TxA.one {c : Nat} (h : txC c = true) : TxA ⟨#[c]⟩ := fun d hd => by
  have : d = c := by simpa using hd
  rw [this]; exact h
theorem TxA.cut {a : Str} {lo hi : Option Int} (h : TxA a) : TxA (cutS a lo hi) := fun c hc => by
  unfold cutS at hc
  exact h c (List.mem_of_mem_drop (List.mem_of_mem_take (by simpa using hc)))
theorem cut_lenR {a : Str} {x : Nat} (hx : x ≤ a.length) : (cutS a (some (x : Int)) none).length = a.length - x := by
  rw [len_cps]
  unfold cutS
  rw [HT.sIx_nat, HT.sIx_none]
  have := len_cps a
  simp only [List.toList_toArray, List.length_take, List.length_drop]
  omega
theorem at_str {s : Str} {k : Nat} (hl : s.length ≤ 1000) (hk : k < s.length) (ha : TxA s) (h : ∀ c, txC c = true → Q (.str ⟨#[c]⟩) H) : oIx K (.str s) (.int (k : Nat)) H Q := by
  have hl2 := len_cps s
  simp only [oIx]
  refine ⟨Nat.le_of_lt (small1000 hl), ?_⟩
  rw [atI_nat, List.getElem?_eq_getElem (show k < s.cps.toList.length from by omega)]
  exact h _ (ha _ (List.getElem_mem _))
theorem b_indexS : (bf K "index").find? (fun b => b.T == "str") = some ⟨"str", "index", "str.index", mIndexS⟩ := by kernel_rfl
def atSig (c : Nat) : Option Nat := (Builtin.Str.occurrences SIG ⟨#[c]⟩ 0 SIG.length 1).head?
theorem sig_ix : ∀ c, c < 128 → txC c = true → (match atSig c with | some i => decide (i < 94) | none => false) = true := by decide +kernel
theorem index_sig {c : Nat} (hc : txC c = true) : ∃ (i : Nat) (r : List Nat), Builtin.Str.occurrences SIG ⟨#[c]⟩ 0 SIG.length 1 = i :: r ∧ i < 94 := by
  have z := sig_ix c (txC_small hc) hc
  unfold atSig at z
  cases e : Builtin.Str.occurrences SIG ⟨#[c]⟩ 0 SIG.length 1 with
  | nil => rw [e] at z; cases z
  | cons i r =>
    rw [e] at z
    exact ⟨i, r, rfl, of_decide_eq_true z⟩
theorem add_str {a b : Str} (h : a.length + b.length ≤ 1000) (q : Q (.str (a ++ b)) H) : oAdd K (.str a) (.str b) H Q := by
  simp only [oAdd]
  exact ⟨Nat.le_of_lt (small1000 h), q⟩
theorem sl_str {a : Str} {lo hi : Option Int} (h : a.length ≤ 1000) (q : Q (.str (cutS a lo hi)) H) : oSl K (.str a) lo hi H Q := by
  simp only [oSl]
  exact ⟨Nat.le_of_lt (small1000 h), q⟩
theorem s__law_turned {s : Str} (hb : Bx H b N) (hN : N < 90000) (h1 : 1 ≤ s.length) (h9 : s.length ≤ 9) (ht : TxA s) (h : ∀ t H', t.length = s.length → TxA t → Bx H' b (N+2) → Fr [b] H H' → Q (.str t) H') : SP K (n+2) "_law_turned" [.ref b, .str s] H Q E := by
  refine o__law_turned ?_
  unfold r__law_turned
  have hl : s.length ≤ 1000 := by omega
  refine seq_ fun N1 h1 => asg_ (call_ (cva_ rfl (cons_ (cb_ (cva_ rfl (nil_ (lenS hl (nil_ (nil_ ⟨rfl, rfl, s_take (n := n) hb (by omega) (by omega) (by omega) fun r H1 r0 r1 b1 f1 => h1 _ _ ?_⟩)))))))))
  simp only [List.set_cons_zero, List.set_cons_succ]
  obtain ⟨k, rfl⟩ := Int.eq_ofNat_of_zero_le r0
  have hk : k < s.length := by omega
  refine seq_ fun N2 h2 => ?_
  simp only [tAsg, tC]
  generalize hg : V.str (Str.ofString " !\"#$&'()*+,-./0123456789:;<=>?@ABCDEFGHIJKLMNOPQRSTUVWXYZ[\\]^_`abcdefghijklmnopqrstuvwxyz{|}~") = sv
  have hv : sv = V.str SIG := hg.symm
  clear hg
  subst hv
  simp only [gName, List.set_cons_zero, List.set_cons_succ]
  refine h2 _ _ ?_
  refine seq_ fun N3 h3 => asg_ (op_ (op_ (mC_blt ?_ fun P P' hh q => mono_var hh q)))
  refine var_ rfl ⟨rfl, "str", rfl, _, b_indexS, cons_ (op_ (var_ rfl (var_ rfl (at_str hl hk ht fun c hc => nil_ ?_))))⟩
  obtain ⟨i, r, ei, hi⟩ := index_sig hc
  simp only [mIndexS, ei]
  refine const_ (add1 ?_)
  refine op_ (const_ (call_ (cva_ rfl (con_ (nil_ (nil_ ⟨rfl, rfl, s_take (n := n) b1 (by omega) (by decide) (by decide) fun r2 H2 r20 r21 b2 f2 => ?_⟩))))))
  refine ⟨cmul_of (by decide) (Nat.lt_trans (show r2.natAbs < 2 by omega) (by decide)), sub1 (h3 _ _ ?_)⟩
  simp only [List.set_cons_zero, List.set_cons_succ]
  refine ret_ (op_ (op_ (slc_ (var_ rfl (cpt_ (var_ rfl (sl_str hl ?_)))))))
  refine op_ (var_ rfl (op_ (var_ rfl (cb_ (cva_ rfl (nil_ (lenS (by rw [sig_all.2]; decide) ⟨by rw [sig_all.2]; decide, ?_⟩)))))))
  rw [sig_all.2]
  refine sig_at (Int.emod_nonneg _ (by decide)) (Int.emod_lt_of_pos _ (by decide)) fun c2 hc2 => ?_
  have l1 : (cutS s none (some ((k : Nat) : Int))).length = k := cut_len0 (by omega)
  refine add_str (by rw [l1]; show k + 1 ≤ _; omega) ?_
  refine slr_ (var_ rfl (cpt_ (op_ (var_ rfl (const_ (add1 (sl_str hl ?_)))))))
  have l3 : (cutS s (some ((k : Nat) + 1 : Int)) none).length = s.length - (k + 1) := cut_lenR (x := k + 1) (by omega)
  have l2 : (cutS s none (some ((k : Nat) : Int)) ++ (⟨#[c2]⟩ : Str)).length = k + 1 := by
    rw [strLen_append, l1]; rfl
  refine add_str (by rw [l2, l3]; omega) ?_
  refine h _ _ ?_ ((ht.cut.app (.one hc2)).app ht.cut) b2 (f1.trans f2)
  rw [strLen_append, l2, l3]
  omega
end
end WR.L

set_option Elab.async false
set_option linter.all false
set_option maxRecDepth 100000
set_option maxHeartbeats 400000
namespace WR.L
open PySem PySem.Spec PyProof.Rows L2
section
variable {K : PySem.W.Frag} {n : Nat} {H H' : Hp} {Q : VK} {E : XK} {v w x : V} {N M M2 : Nat} {σ : L2.St} {D : Ends} {xs ys : List V} {S : Str → Sp} {b : Addr}
/-! ## lists of pieces, bent ones -/
def Itm (H : Hp) (x : V) : Prop := x = .non ∨ (∃ i : Int, x = .int i ∧ 0 ≤ i ∧ i < 100) ∨ (∃ s : Str, x = .str s ∧ s.length ≤ 9 ∧ As s ∧ (10 ∈ s.cps.toList ∨ TxA s)) ∨ ∃ p, x = .ref p ∧ H p = some (.lst [.str "a"])
theorem Itm.ex (e : Ex H H') (h : Itm H x) : Itm H' x := h.imp id fun h => h.imp id fun h => h.imp id fun ⟨p, a, c⟩ => ⟨p, a, e _ _ c⟩
theorem Itm.fr (hb : Bx H b N) (f : Fr [b] H H') (h : Itm H x) : Itm H' x := h.imp id fun h => h.imp id fun h => h.imp id fun ⟨p, a, c⟩ => ⟨p, a, fr_at f (fun z => by
  obtain ⟨_, _, _, e, _⟩ := hb
  rw [z, e] at c
  cases c) c⟩
theorem sc_i {i : Int} (h0 : 0 ≤ i) (h1 : i < 100) : okSc (.int i) := by
  show i.natAbs < 10 ^ 40
  exact Nat.lt_trans (show i.natAbs < 100 by omega) (by decide)
theorem TxA.as {s : Str} (h : TxA s) : As s := fun c hc => txC_small (h c hc)
theorem Itm.tx {s : Str} (h : TxA s) (l : s.length ≤ 9) : Itm H (.str s) := .inr (.inr (.inl ⟨s, rfl, l, h.as, .inr h⟩))
theorem Itm.cm (h : Itm H x) : Cm H x := by
  rcases h with rfl | ⟨i, rfl, i0, i1⟩ | ⟨s, rfl, a, b, _⟩ | ⟨p, rfl, h⟩
  · exact ⟨_, .non, .inl trivial⟩
  · exact ⟨_, .int _, .inl (sc_i i0 i1)⟩
  · exact ⟨_, .str _, .inl ⟨by omega, b⟩⟩
  · exact ⟨_, .lst h, .inr (by decide)⟩
/-- a list of pieces -/
def PcL (H : Hp) (b : Addr) (v : V) (M : Nat) (xs : List V) : Prop := ∃ p, v = .ref p ∧ p ≠ b ∧ H p = some (.lst xs) ∧ xs.length ≤ M ∧ ∀ x ∈ xs, Itm H x
theorem PcL.ex (e : Ex H H') (h : PcL H b v M xs) : PcL H' b v M xs := by
  obtain ⟨p, a, c, d, l, i⟩ := h
  exact ⟨p, a, c, e _ _ d, l, fun x hx => (i x hx).ex e⟩
theorem PcL.fr (hb : Bx H b N) (f : Fr [b] H H') (h : PcL H b v M xs) : PcL H' b v M xs := by
  obtain ⟨p, a, c, d, l, i⟩ := h
  exact ⟨p, a, c, fr_at f c d, l, fun x hx => (i x hx).fr hb f⟩
theorem PcL.up (h : PcL H b v M xs) (l : M ≤ M2) : PcL H b v M2 xs := by
  obtain ⟨p, a, c, d, l', i⟩ := h
  exact ⟨p, a, c, d, by omega, i⟩
theorem PcL.new {p : Addr} (hb : Bx H b N) (hp : H p = none) (hl : xs.length ≤ M) (hi : ∀ x ∈ xs, Itm H x) : PcL (upd H p (.lst xs)) b (.ref p) M xs :=
  ⟨p, rfl, bx_ne hb hp, upd_same, hl, fun x hx => (hi x hx).ex (Ex.refl.new hp)⟩
theorem sl_lst {a : Addr} {lo hi : Option Int} (h : H a = some (.lst xs)) (q : ∀ p, H p = none → Q (.ref p) (upd H p (.lst (cutV xs lo hi)))) : oSl K (.ref a) lo hi H Q := by
  simp only [oSl, look_of_lst (K := K) h]
  exact q
theorem cutV_mem {lo hi : Option Int} (h : x ∈ cutV xs lo hi) : x ∈ xs := by
  unfold cutV at h
  exact List.mem_of_mem_drop (List.mem_of_mem_take h)
theorem cutV_len {lo hi : Option Int} : (cutV xs lo hi).length ≤ xs.length := by
  unfold cutV
  simp only [List.length_take, List.length_drop]
  omega
theorem slP {lo hi : Option Int} (hb : Bx H b N) (h : PcL H b v M xs) (q : ∀ w H', Ex H H' → PcL H' b w M (cutV xs lo hi) → Q w H') : oSl K v lo hi H Q := by
  obtain ⟨p, rfl, c, d, l, i⟩ := h
  refine sl_lst d fun p2 h2 => q _ _ (Ex.refl.new h2) (PcL.new hb h2 ?_ fun x hx => i x (cutV_mem hx))
  have := cutV_len (xs := xs) (lo := lo) (hi := hi)
  omega
theorem addP (hb : Bx H b N) (h : PcL H b v M xs) (h2 : PcL H b w M2 ys) (hl : M + M2 ≤ 1000) (q : ∀ z H', Ex H H' → PcL H' b z (M + M2) (xs ++ ys) → Q z H') : oAdd K v w H Q := by
  obtain ⟨p, rfl, c, d, l, i⟩ := h
  obtain ⟨p2, rfl, c2, d2, l2, i2⟩ := h2
  simp only [oAdd, d, d2]
  refine ⟨Nat.le_of_lt (small1000 (by omega)), fun p3 h3 => q _ _ (Ex.refl.new h3) (PcL.new hb h3 (by rw [List.length_append]; omega) fun x hx => ?_)⟩
  rcases List.mem_append.mp hx with hx | hx
  · exact i x hx
  · exact i2 x hx
theorem itm_dp (h : Itm H x) : ∃ d, Dp K H x d ∧ PyData.canLay0 d = true ∧ PyData.depth d ≤ 2 := by
  rcases h with rfl | ⟨i, rfl, i0, i1⟩ | ⟨s, rfl, a, b, _⟩ | ⟨p, rfl, h⟩
  · exact ⟨_, .non, rfl, by simp [PyData.depth]⟩
  · exact ⟨_, .int _, rfl, by simp [PyData.depth]⟩
  · exact ⟨_, .str _, okS_of fun c hc => Nat.lt_trans (b c hc) (by decide), by simp [PyData.depth]⟩
  · exact ⟨_, .lst (.inl (.inl h)) (.cons (.str _) .nil), by decide +kernel, by simp [PyData.depth, PyData.depthAll]⟩
theorem itms_dp : ∀ {xs : List V}, (∀ x ∈ xs, Itm H x) → ∃ ds, DpAll K H xs ds ∧ PyData.canLayAll0 ds = true ∧ PyData.depthAll ds ≤ 2 ∧ ds.isEmpty = xs.isEmpty
  | [], _ => ⟨[], .nil, rfl, Nat.zero_le _, rfl⟩
  | x :: xs, h => by
    obtain ⟨d, a, b, c⟩ := itm_dp (K := K) (h x List.mem_cons_self)
    obtain ⟨ds, a1, b1, c1, _⟩ := itms_dp (xs := xs) fun z hz => h z (List.mem_cons_of_mem _ hz)
    refine ⟨d :: ds, .cons a a1, ?_, ?_, rfl⟩
    · simp only [PyData.canLayAll0, b, b1, Bool.and_self]
    · simp only [PyData.depthAll]; exact Nat.max_le.mpr ⟨c, c1⟩
theorem eq_nilP {a q : Addr} (ha : H a = some (.lst xs)) (hi : ∀ x ∈ xs, Itm H x) (hq : H q = some (.lst [])) (z : Q (.bl xs.isEmpty) H) : oEqG (gg K S) (.ref a) (.ref q) H Q := by
  refine .inl ?_
  unfold oEqG0
  rw [ins_lst (look_of_lst (K := K) ha)]
  obtain ⟨ds, a1, b1, c1, e1⟩ := itms_dp (K := K) hi
  have sh : SeqAt.shaped (.list ds) = true := by
    unfold SeqAt.shaped
    simp only [PyData.canLay0, PyData.depth, b1, Bool.true_and, decide_eq_true_eq]
    exact decide_eq_true (by omega)
  refine .inl (.inr ⟨_, _, .lst (.inl (.inl ha)) a1, .lst (.inl (.inl hq)) .nil, sh, shaped_strs (ss := []) (fun _ z => nomatch z), ?_⟩)
  have : PyData.eqv (.list ds) (.list []) = xs.isEmpty := by
    rw [← e1]
    cases ds <;> rfl
  rw [this]
  exact z
theorem itm_kd (h : Itm H x) : ∃ m, Kd H x m ∧ (m = "str" → ∃ s, x = .str s ∧ s.length ≤ 9 ∧ As s ∧ (10 ∈ s.cps.toList ∨ TxA s)) := by
  rcases h with rfl | ⟨i, rfl, i0, i1⟩ | ⟨s, rfl, a⟩ | ⟨p, rfl, h⟩
  · exact ⟨_, .non, fun z => absurd z (by decide)⟩
  · exact ⟨_, .int _, fun z => absurd z (by decide)⟩
  · exact ⟨_, .str _, fun _ => ⟨s, rfl, a⟩⟩
  · exact ⟨_, .lst h, fun z => absurd z (by decide)⟩
theorem nl_eq : ("\n" : Str) = ⟨#[10]⟩ := by decide +kernel
theorem tx_of {s : Str} (h : 10 ∈ s.cps.toList ∨ TxA s) (n : ¬ 10 ∈ s.cps.toList) : TxA s := h.resolve_left n
theorem one_le {s : Str} (h : ¬ s = "") : 1 ≤ s.length := by
  rcases Nat.eq_zero_or_pos s.length with z | z
  · refine (h ?_).elim
    cases s with
    | mk cps =>
      have : cps = #[] := Array.eq_empty_of_size_eq_zero z
      subst this
      rfl
  · exact z
end
end WR.L

set_option Elab.async false
set_option linter.all false
set_option maxRecDepth 100000
set_option maxHeartbeats 400000
namespace WR.L
open PySem PySem.Spec PyProof.Rows L2
section
variable {K : PySem.W.Frag} {n : Nat} {H H' : Hp} {Q : VK} {E : XK} {v w x : V} {N M M2 : Nat} {σ : L2.St} {D : Ends} {xs ys : List V} {S : Str → Sp} {b : Addr}
theorem sz1 {a : List V} (h : a.length ≤ 1000) : a.length ≤ sizeLine := Nat.le_of_lt (small1000 h)
theorem ix_its {p : Addr} {r : Int} (h : H p = some (.lst xs)) (r0 : 0 ≤ r) (r1 : r < xs.length) (q : ∀ x ∈ xs, Q x H) : oIx K (.ref p) (.int r) H Q := ixl h r0 r1 q
theorem MulOk_a9 : PySem.MulOk "a" 9 := by
  first | decide +kernel | exact ⟨by decide +kernel, by decide +kernel⟩
theorem a9_ok : (Txt.mul "a" 9).length ≤ 9 ∧ TxA (Txt.mul "a" 9) := ⟨by decide +kernel, by unfold TxA; decide +kernel⟩
theorem rev_ {te : TE} (h : ∀ N : V → Hp → Prop, (∀ p xs H1, H1 p = some (.lst xs) → (∀ q, H1 q = none → Q (.ref q) (upd H1 q (.lst xs.reverse))) → N (.ref p) H1) → te σ H N) : cRevS K te σ H Q := by
  unfold cRevS
  refine h _ fun p xs H1 hp q => ?_
  simp only [look_of_lst (K := K) hp]
  exact q
theorem slf_ {r : V → Option Int → Option Int → Hp → VK → Prop} {te : TE} {tl th : TO} (h : te σ H fun x H1 => tl σ H1 fun l H2 => th σ H2 fun u H3 => r x l u H3 Q) : tSl r te tl th σ H Q := h
theorem s__law_bent (hb : Bx H b N) (hN : N ≤ 80000) (pl : PcL H b v M xs) (hM : M ≤ 100) (h : ∀ w zs H' N', PcL H' b w (3 * M + 1) zs → N' ≤ N + 4 → Bx H' b N' → Fr [b] H H' → Q w H') : SP K (n+3) "_law_bent" [.ref b, v] H Q E := by
  refine o__law_bent ?_
  unfold r__law_bent
  have pl0 := pl
  obtain ⟨p, rfl, pb, hp, hl, hi⟩ := pl
  refine seq_ fun N1 h1 => ifS_ fun A B hA hB => test_ (op_ (var_ rfl (lst_ (nil_ ⟨sz1 (by simp), fun p0 g0 => ?_⟩))))
  have x0 : Ex H (upd H p0 (.lst [])) := Ex.refl.new g0
  refine eq_nilP (x0 _ _ hp) (fun x hx => (hi x hx).ex x0) upd_same ?_
  generalize upd H p0 (.lst []) = H0 at x0
  have b0 := hb.ex x0
  cases he : xs.isEmpty with
  | true =>
    simp only [if_true]
    refine hA _ (ret_ (op_ (lst_ (cons_ (lst_ (con_ (nil_ ⟨sz1 (by simp), fun p1 g1 => ?_⟩)))))))
    refine cons_ (lst_ (con_ (nil_ ⟨sz1 (by simp), fun p2 g2 => ?_⟩)))
    refine cons_ (lst_ (con_ (nil_ ⟨sz1 (by simp), fun p3 g3 => ?_⟩)))
    refine cons_ (lst_ (nil_ ⟨sz1 (by simp), fun p4 g4 => nil_ ⟨sz1 (by simp), fun p5 g5 => ?_⟩⟩))
    have a1 : Itm (upd H0 p1 (.lst [.str "a"])) (.str "a") := .tx (by unfold TxA; decide +kernel) (by decide)
    have x1 : Ex H0 (upd H0 p1 (.lst [.str "a"])) := Ex.refl.new g1
    have l1 := PcL.new (M := 1) (xs := [.str "a"]) b0 g1 (by simp) fun z hz => by rw [List.mem_singleton] at hz; subst hz; exact .tx (by unfold TxA; decide +kernel) (by decide)
    have b1 := b0.ex x1
    generalize upd H0 p1 (.lst [.str "a"]) = H1 at *
    have x2 : Ex H1 (upd H1 p2 (.lst [.str ""])) := Ex.refl.new g2
    have l2 := PcL.new (M := 1) (xs := [.str ""]) b1 g2 (by simp) fun z hz => by rw [List.mem_singleton] at hz; subst hz; exact .tx (by unfold TxA; decide +kernel) (by decide)
    have b2 := b1.ex x2
    generalize upd H1 p2 (.lst [.str ""]) = H2 at *
    have x3 : Ex H2 (upd H2 p3 (.lst [.non])) := Ex.refl.new g3
    have l3 := PcL.new (M := 1) (xs := [.non]) b2 g3 (by simp) fun z hz => by rw [List.mem_singleton] at hz; subst hz; exact .inl rfl
    have b3 := b2.ex x3
    generalize upd H2 p3 (.lst [.non]) = H3 at *
    have x4 : Ex H3 (upd H3 p4 (.lst [])) := Ex.refl.new g4
    have l4 := PcL.new (M := 1) (xs := []) b3 g4 (by simp) fun z hz => nomatch hz
    have b4 := b3.ex x4
    generalize upd H3 p4 (.lst []) = H4 at *
    have x5 : Ex H4 (upd H4 p5 (.lst [.ref p1, .ref p2, .ref p3, .ref p4])) := Ex.refl.new g5
    have k5 : upd H4 p5 (.lst [.ref p1, .ref p2, .ref p3, .ref p4]) p5 = some (.lst [.ref p1, .ref p2, .ref p3, .ref p4]) := upd_same
    have b5 := b4.ex x5
    have n5 := bx_ne b4 g5
    generalize upd H4 p5 (.lst [.ref p1, .ref p2, .ref p3, .ref p4]) = H5 at *
    refine call_ (cva_ rfl (con_ (nil_ (nil_ ⟨rfl, rfl, s_take (n := n + 1) b5 (by omega) (by decide) (by decide) fun r H6 r0 r1 b6 f6 => ?_⟩))))
    have f : Fr [b] H H6 := (Fr.ex (((((x0.trans x1).trans x2).trans x3).trans x4).trans x5)).trans f6
    refine ixl (fr_at f6 n5 k5) r0 (by simpa using r1) fun z hz => ?_
    have m1 : 1 ≤ 3 * M + 1 := by omega
    simp only [List.mem_cons, List.not_mem_nil, or_false] at hz
    rcases hz with rfl | rfl | rfl | rfl
    · exact h _ _ _ _ (((l1.ex (x2.trans (x3.trans (x4.trans x5)))).fr b5 f6).up m1) (by omega) b6 f
    · exact h _ _ _ _ (((l2.ex (x3.trans (x4.trans x5))).fr b5 f6).up m1) (by omega) b6 f
    · exact h _ _ _ _ (((l3.ex (x4.trans x5)).fr b5 f6).up m1) (by omega) b6 f
    · exact h _ _ _ _ (((l4.ex x5).fr b5 f6).up m1) (by omega) b6 f
  | false =>
    simp only [Bool.false_eq_true, if_false]
    refine hB _ (next_ (h1 _ _ ?_))
    have hne : 1 ≤ xs.length := by
      cases xs with
      | nil => cases he
      | cons a r => simp
    refine seq_ fun N2 h2 => asg_ (call_ (cva_ rfl (cons_ (cb_ (cva_ rfl (nil_ (lenL (x0 _ _ hp) (nil_ (nil_ ⟨rfl, rfl, s_take (n := n + 1) b0 (by omega) (by omega) (by omega) fun r H1 r0 r1 b1 f1 => h2 _ _ ?_⟩)))))))))
    simp only [List.set_cons_zero, List.set_cons_succ]
    obtain ⟨k, rfl⟩ := Int.eq_ofNat_of_zero_le r0
    have hk : k < xs.length := by omega
    refine seq_ fun N3 h3 => asg_ (call_ (cva_ rfl (con_ (nil_ (nil_ ⟨rfl, rfl, s_take (n := n + 1) b1 (by omega) (by decide) (by decide) fun way H2 w0 w1 b2 f2 => h3 _ _ ?_⟩)))))
    simp only [List.set_cons_zero, List.set_cons_succ]
    have f : Fr [b] H H2 := (Fr.ex x0).trans (f1.trans f2)
    have pl2 : PcL H2 b (.ref p) M xs := ((pl0.ex x0).fr b0 f1).fr b1 f2
    have hp2 : H2 p = some (.lst xs) := fr_at f pb hp
    have hi2 : ∀ x ∈ xs, Itm H2 x := fun x hx => ((hi x hx).fr hb f)
    clear h1 h2 h3 hA hB x0 f1 f2 b0 b1 hi hp
    have hxk := hi2 _ (List.getElem_mem hk)
    refine seq_ fun N4 h4 => ifS_ fun A4 B4 hA4 hB4 => ?_
    have rest : B4 H2 := by
      refine hB4 _ (next_ (h4 _ _ ?_))
      refine seq_ fun N5 h5 => ?_
      by_cases c2 : way = 2
      · refine if_yes rfl c2 (ret_ (op_ (slc_ (var_ rfl (cpt_ (var_ rfl (slP b2 pl2 fun w1 H3 e3 p3 => ?_)))))))
        refine slr_ (var_ rfl (cpt_ (op_ (var_ rfl (const_ (add1 (slP (b2.ex e3) (pl2.ex e3) fun w2 H4 e4 p4 => ?_)))))))
        refine addP (b2.ex (e3.trans e4)) (p3.ex e4) p4 (by omega) fun z H5 e5 p5 => ?_
        exact h _ _ _ _ (p5.up (by omega)) (by omega) (b2.ex (e3.trans (e4.trans e5))) (f.trans (Fr.ex (e3.trans (e4.trans e5))))
      refine if_no rfl c2 (h5 _ _ ?_)
      refine seq_ fun N6 h6 => ?_
      by_cases c3 : way = 3
      · refine if_yes rfl c3 (ret_ (op_ (slc_ (var_ rfl (cpt_ (op_ (var_ rfl (const_ (add1 (slP b2 pl2 fun w1 H3 e3 p3 => ?_))))))))))
        refine slr_ (var_ rfl (cpt_ (var_ rfl (slP (b2.ex e3) (pl2.ex e3) fun w2 H4 e4 p4 => ?_))))
        refine addP (b2.ex (e3.trans e4)) (p3.ex e4) p4 (by omega) fun z H5 e5 p5 => ?_
        exact h _ _ _ _ (p5.up (by omega)) (by omega) (b2.ex (e3.trans (e4.trans e5))) (f.trans (Fr.ex (e3.trans (e4.trans e5))))
      refine if_no rfl c3 (h6 _ _ ?_)
      refine seq_ fun N7 h7 => ?_
      by_cases c4 : way = 4
      · refine if_yes rfl c4 (ret_ (op_ (op_ (slc_ (var_ rfl (cpt_ (var_ rfl (slP b2 pl2 fun w1 H3 e3 p3 => ?_))))))))
        refine rev_ fun N0 hN0 => slf_ (var_ rfl (cpt_ (var_ rfl (cpt_ (op_ (var_ rfl (const_ (add1 (slP (b2.ex e3) (pl2.ex e3) fun w2 H4 e4 p4 => ?_)))))))))
        obtain ⟨p4a, rfl, n4, k4, l4, i4⟩ := p4
        refine hN0 _ _ _ k4 fun p5 g5 => ?_
        have b4 := b2.ex (e3.trans e4)
        have l5 := PcL.new (M := M) b4 g5 (xs := (cutV xs (some (k : Int)) (some ((k : Int) + 2))).reverse) (by rw [List.length_reverse]; exact l4) fun z hz => i4 z (List.mem_reverse.mp hz)
        have x5 : Ex H4 (upd H4 p5 (.lst (cutV xs (some (k : Int)) (some ((k : Int) + 2))).reverse)) := Ex.refl.new g5
        generalize upd H4 p5 (.lst (cutV xs (some (k : Int)) (some ((k : Int) + 2))).reverse) = H5 at *
        have b5 := b4.ex x5
        refine addP b5 (p3.ex (e4.trans x5)) l5 (by omega) fun z6 H6 e6 p6 => ?_
        refine slr_ (var_ rfl (cpt_ (op_ (var_ rfl (const_ (add1 (slP (b5.ex e6) (pl2.ex (e3.trans (e4.trans (x5.trans e6)))) fun w7 H7 e7 p7 => ?_)))))))
        refine addP (b5.ex (e6.trans e7)) (p6.ex e7) p7 (by omega) fun z8 H8 e8 p8 => ?_
        exact h _ _ _ _ (p8.up (by omega)) (by omega) (b5.ex (e6.trans (e7.trans e8))) (f.trans (Fr.ex (e3.trans (e4.trans (x5.trans (e6.trans (e7.trans e8)))))))
      refine if_no rfl c4 (h7 _ _ ?_)
      refine seq_ fun N8 h8 => asg_ (lst_ (con_ (con_ (cons_ (op_ (const_ (const_ ⟨MulOk_a9, con_ (cons_ (lst_ (con_ (nil_ ⟨sz1 (by simp), fun p3 g3 => ?_⟩)))) ⟩)))))))
      refine con_ (con_ (nil_ ⟨sz1 (by simp), fun p4 g4 => h8 _ _ ?_⟩))
      simp only [List.set_cons_zero, List.set_cons_succ]
      have x3 : Ex H2 (upd H2 p3 (.lst [.str "a"])) := Ex.refl.new g3
      have k3 : upd H2 p3 (.lst [.str "a"]) p3 = some (.lst [.str "a"]) := upd_same
      have b3 := b2.ex x3
      generalize upd H2 p3 (.lst [.str "a"]) = H3 at *
      generalize hm : Txt.mul "a" 9 = ma at *
      have am := a9_ok
      rw [hm] at am
      have x4 : Ex H3 (upd H3 p4 (.lst [.non, .str "", .str ma, .int 7, .ref p3, .str "12345678", .str "1234567\n"])) := Ex.refl.new g4
      have k4 : upd H3 p4 (.lst [.non, .str "", .str ma, .int 7, .ref p3, .str "12345678", .str "1234567\n"]) p4 = some (.lst [.non, .str "", .str ma, .int 7, .ref p3, .str "12345678", .str "1234567\n"]) := upd_same
      have b4 := b3.ex x4
      have n4 := bx_ne b3 g4
      generalize upd H3 p4 (.lst [.non, .str "", .str ma, .int 7, .ref p3, .str "12345678", .str "1234567\n"]) = H4 at *
      have its : ∀ z ∈ [V.non, .str "", .str ma, .int 7, .ref p3, .str "12345678", .str "1234567\n"], Itm H4 z := fun z hz => by
        simp only [List.mem_cons, List.not_mem_nil, or_false] at hz
        rcases hz with rfl | rfl | rfl | rfl | rfl | rfl | rfl
        · exact .inl rfl
        · exact .tx (by unfold TxA; decide +kernel) (by decide)
        · exact .tx am.2 am.1
        · exact .inr (.inl ⟨7, rfl, by decide, by decide⟩)
        · exact .inr (.inr (.inr ⟨_, rfl, x4 _ _ k3⟩))
        · exact .tx (by unfold TxA; decide +kernel) (by decide)
        · exact .inr (.inr (.inl ⟨_, rfl, by decide, by unfold As; decide +kernel, .inl (by decide +kernel)⟩))
      have pl4 := pl2.ex (x3.trans x4)
      refine ret_ (op_ (op_ (slc_ (var_ rfl (cpt_ (var_ rfl (slP b4 pl4 fun w1 H5 e5 p5 => ?_)))))))
      refine lst_ (cons_ (op_ (var_ rfl (call_ (cva_ rfl (con_ (nil_ (nil_ ⟨rfl, rfl, s_take (n := n + 1) (b4.ex e5) (by omega) (by decide) (by decide) fun r H6 r0 r1 b6 f6 => ?_⟩))))))))
      refine ixl (fr_at f6 n4 (e5 _ _ k4)) r0 (by simpa using r1) fun z hz => nil_ ⟨sz1 (by simp), fun p7 g7 => ?_⟩
      have l7 := PcL.new (M := 1) (xs := [z]) b6 g7 (by simp) fun z' hz' => by
        rw [List.mem_singleton] at hz'
        subst hz'
        exact (((its _ hz).ex e5).fr (b4.ex e5) f6)
      have x7 : Ex H6 (upd H6 p7 (.lst [z])) := Ex.refl.new g7
      generalize upd H6 p7 (.lst [z]) = H7 at *
      have b7 := b6.ex x7
      refine addP b7 ((p5.fr (b4.ex e5) f6).ex x7) l7 (by omega) fun z8 H8 e8 p8 => ?_
      refine slr_ (var_ rfl (cpt_ (op_ (var_ rfl (const_ (add1 (slP (b7.ex e8) (((pl4.ex e5).fr (b4.ex e5) f6).ex (x7.trans e8)) fun w9 H9 e9 p9 => ?_)))))))
      refine addP (b7.ex (e8.trans e9)) (p8.ex e9) p9 (by omega) fun z10 H10 e10 p10 => ?_
      exact h _ _ _ _ (p10.up (by omega)) (by omega) (b7.ex (e8.trans (e9.trans e10))) (((f.trans (Fr.ex (x3.trans (x4.trans e5)))).trans f6).trans (Fr.ex (x7.trans (e8.trans (e9.trans e10)))))
    refine and2_ (test_ (op_ (var_ rfl (const_ ?_))))
    simp only [oLtK]
    by_cases wlt : way < 2
    · rw [decide_eq_true wlt]
      simp only [if_true]
      refine and2_ (tru_ (cb_ (cons_ (op_ (var_ rfl (var_ rfl (idx_lst hp2 hk (con_ (nil_ ?_)))))))))
      obtain ⟨m, km, hm⟩ := itm_kd hxk
      refine isi_k km (by decide) ?_
      by_cases em : m = "str"
      · obtain ⟨s, es, l9, as, tx⟩ := hm em
        subst em
        simp only [show isK "str" "str" = true from rfl, oTru, if_true]
        have ix : ∀ R : VK, R (.str s) H2 → oIx K (.ref p) (.int (k : Nat)) H2 R := fun R q => idx_lst hp2 hk (by rw [es]; exact q)
        refine and2_ (test_ (op_ (op_ (var_ rfl (var_ rfl (ix _ (const_ (ne_scal rfl rfl rfl ?_))))))))
        by_cases z : s = ""
        · rw [decide_eq_true (by rw [z])]
          simp only [Bool.not_true, Bool.false_eq_true, if_false]
          exact rest
        · rw [decide_eq_false (fun w => z (V.str.inj w))]
          simp only [Bool.not_false, if_true]
          refine test_ (op_ (const_ (op_ (var_ rfl (var_ rfl (ix _ ?_))))))
          rw [nl_eq, in_letter]
          by_cases nl : 10 ∈ s.cps.toList
          · rw [decide_eq_true nl]
            simp only [Bool.true_xor, Bool.not_true, Bool.false_eq_true, if_false]
            exact rest
          · rw [decide_eq_false nl]
            simp only [Bool.true_xor, Bool.not_false, if_true]
            refine hA4 _ (ret_ (op_ (op_ (slc_ (var_ rfl (cpt_ (var_ rfl (slP b2 pl2 fun w1 H3 e3 p3 => ?_))))))))
            refine lst_ (cons_ (call_ (cva_ rfl (cons_ (op_ (var_ rfl (var_ rfl (idx_lst (e3 _ _ hp2) hk ?_))))))))
            rw [es]
            refine nil_ (nil_ ⟨rfl, rfl, s__law_turned (n := n) (b2.ex e3) (by omega) (one_le z) l9 (tx_of tx nl) fun t H4 lt tt b4 f4 => nil_ ⟨sz1 (by simp), fun p5 g5 => ?_⟩⟩)
            have l5 := PcL.new (M := 1) (xs := [.str t]) b4 g5 (by simp) fun z' hz' => by
              rw [List.mem_singleton] at hz'
              subst hz'
              exact .tx tt (by omega)
            have x5 : Ex H4 (upd H4 p5 (.lst [.str t])) := Ex.refl.new g5
            generalize upd H4 p5 (.lst [.str t]) = H5 at *
            have b5 := b4.ex x5
            refine addP b5 ((p3.fr (b2.ex e3) f4).ex x5) l5 (by omega) fun z6 H6 e6 p6 => ?_
            refine slr_ (var_ rfl (cpt_ (op_ (var_ rfl (const_ (add1 (slP (b5.ex e6) (((pl2.ex e3).fr (b2.ex e3) f4).ex (x5.trans e6)) fun w7 H7 e7 p7 => ?_)))))))
            refine addP (b5.ex (e6.trans e7)) (p6.ex e7) p7 (by omega) fun z8 H8 e8 p8 => ?_
            exact h _ _ _ _ (p8.up (by omega)) (by omega) (b5.ex (e6.trans (e7.trans e8))) (((f.trans (Fr.ex e3)).trans f4).trans (Fr.ex (x5.trans (e6.trans (e7.trans e8)))))
      · rw [isK_no em fun _ => by decide]
        simp only [oTru, Bool.false_eq_true, if_false]
        exact rest
    · rw [decide_eq_false wlt]
      simp only [Bool.false_eq_true, if_false]
      exact rest
end
end WR.L

set_option Elab.async false
set_option linter.all false
set_option maxRecDepth 100000
set_option maxHeartbeats 400000
namespace WR.L
open PySem PySem.Spec PyProof.Rows L2
section
variable {K : PySem.W.Frag} {n : Nat} {H H' H1 : Hp} {Q : VK} {E : XK} {v w x : V} {N M M2 : Nat} {σ : L2.St} {D : Ends} {xs ys : List V} {S : Str → Sp} {b : Addr} {ks : Str} {c : CD} {m : String}
/-! ## things that are no cards, and what they grow -/
def Od (H : Hp) (N : Nat) (v : V) : Prop := Tre H 3 v ∨ (∃ p vs, v = .ref p ∧ H p = some (.lst vs) ∧ vs.length ≤ N ∧ ∀ x ∈ vs, Tre H 2 x) ∨ ∃ p kvs, v = .ref p ∧ H p = some (.dK kvs) ∧ kvs.length ≤ N ∧ ∀ kv ∈ kvs, okKv kv
theorem Od.th (h : Od H N v) : Th H N v := by
  rcases h with h | ⟨p, vs, rfl, a, b, c⟩ | ⟨p, vs, rfl, a, b, c⟩
  · exact .tt h
  · exact .lst a b c
  · exact .dic a b c
theorem Od.ex (e : Ex H H') (h : Od H N v) : Od H' N v :=
  h.imp (fun t => t.tp e.tp) fun h => h.imp (fun ⟨p, vs, a, b, c, d⟩ => ⟨p, vs, a, e _ _ b, c, fun x hx => (d x hx).tp e.tp⟩) fun ⟨p, vs, a, b, c⟩ => ⟨p, vs, a, e _ _ b, c⟩
theorem Od.up (l : N ≤ M) (h : Od H N v) : Od H M v :=
  h.imp id fun h => h.imp (fun ⟨p, vs, a, b, c, d⟩ => ⟨p, vs, a, b, by omega, d⟩) fun ⟨p, vs, a, b, c⟩ => ⟨p, vs, a, b, by omega, c.2⟩
theorem Od.put {L : Addr} {o : HO} (hL : ∀ us, H L ≠ some (.tup us)) (ne : v ≠ .ref L) (h : Od H N v) : Od (upd H L o) N v :=
  h.imp (fun t => t.tp (tp_put hL)) fun h => h.imp (fun ⟨p, vs, a, b, c, d⟩ => ⟨p, vs, a, by rw [upd_ne (fun z => ne (by rw [a, z]))]; exact b, c, fun x hx => (d x hx).tp (tp_put hL)⟩) fun ⟨p, vs, a, b, c⟩ => ⟨p, vs, a, by rw [upd_ne (fun z => ne (by rw [a, z]))]; exact b, c⟩
theorem tre_no {k : Nat} {p : Addr} (t : Tre H k (.ref p)) (h : ∀ us, H p ≠ some (.tup us)) : False := by
  obtain ⟨us, e⟩ := tre_tup t
  exact h us e
theorem Od.grown (g : GwC v H H') (h : Od H N v) : Od H' (N + 1) v := by
  have tp := g.gw.2
  rcases g with ⟨p, vs, rfl, hp, rfl⟩ | ⟨p, kvs, rfl, hp, rfl⟩ | ⟨rfl, _⟩
  · rcases h with h | ⟨p', ws, e, hq, hl, ha⟩ | ⟨p', ws, e, hq, hl, ha⟩
    · exact (tre_no h fun us z => by rw [hp] at z; cases z).elim
    · cases e; rw [hp] at hq; cases hq
      refine .inr (.inl ⟨p, _, rfl, upd_same, by simp; omega, fun x hx => ?_⟩)
      rcases List.mem_append.mp hx with hx | hx
      · exact (ha x hx).tp tp
      · rw [List.mem_singleton] at hx; subst hx; exact .sc sc7
    · cases e; rw [hp] at hq; cases hq
  · rcases h with h | ⟨p', ws, e, hq, hl, ha⟩ | ⟨p', ws, e, hq, hl, ha⟩
    · exact (tre_no h fun us z => by rw [hp] at z; cases z).elim
    · cases e; rw [hp] at hq; cases hq
    · cases e; rw [hp] at hq; cases hq
      exact .inr (.inr ⟨p, _, rfl, upd_same, Nat.le_trans put_len (by omega), put_ok ha⟩)
  · exact h.up (by omega)
theorem crd_grown (g : GwC v H H') (nc : ¬ Crd H v) : ¬ Crd H' v := by
  rcases g with ⟨p, vs, rfl, hp, rfl⟩ | ⟨p, kvs, rfl, hp, rfl⟩ | ⟨rfl, _⟩
  · exact crd_no (.lst upd_same) (by decide)
  · exact crd_no (.dK upd_same) (by decide)
  · exact nc
theorem gw_put {L : Addr} {o : HO} (g : Gw v H H') (hL : H L = none) : Gw v H (upd H' L o) :=
  ⟨fun b u nb e => by rw [upd_ne (fun z => by rw [z, hL] at e; cases e)]; exact g.1 b u nb e, fun t us e => by rw [upd_ne (fun z => by rw [z, hL] at e; cases e)]; exact g.2 t us e⟩
theorem Od.ne {L : Addr} (hL : H L = none) (h : Od H N v) : v ≠ .ref L := fun z => by
  subst z
  rcases h with h | ⟨p', ws, e, hq, hl, ha⟩ | ⟨p', ws, e, hq, hl, ha⟩
  · exact tre_no h fun us z => by rw [hL] at z; cases z
  · cases e; rw [hL] at hq; cases hq
  · cases e; rw [hL] at hq; cases hq
theorem crd_put {L : Addr} {o : HO} (hL : ∀ us, H L ≠ some (.tup us)) (ne : v ≠ .ref L) (h : Od H N v) (nc : ¬ Crd H v) : (∀ us, o ≠ .tup us) → ¬ Crd (upd H L o) v := fun no z => by
  obtain ⟨p, k, n, b, mv, rfl, hp, h1, h2, h3, h4⟩ := z
  rw [upd_ne (fun z => ne (by rw [z]))] at hp
  refine nc ⟨p, k, n, b, mv, rfl, hp, h1, h2, h3, h4.imp id fun ⟨q, ms, a, b, c⟩ => ⟨q, ms, a, ?_, c⟩⟩
  by_cases e : q = L
  · rw [e, upd_same] at b
    exact (no ms (Option.some.inj b)).elim
  · rw [upd_ne e] at b; exact b
/-! ## doors -/
def doorB (K : PySem.W.Frag) (S : Str → Sp) (W : WX) : TS :=
  (tIfS (cTest (tOp (oEqG (gg K S)) (cVar 4) (tC (.int 0))))
  (tDrop (cCall (S "first_wrong") 2 0 (fun vs _ => vs) (tCons (cVar 0) (tCons (cVar 1) tNil)) tNil W))
  (tIfS (cTest (tOp (oEqG (gg K S)) (cVar 4) (tC (.int 1))))
  (tDrop (cCall (S "whole_text") 2 0 (fun vs _ => vs) (tCons (cVar 0) (tCons (cVar 1) tNil)) tNil W))
  (tDrop (cCall (S "fits") 3 0 (fun vs _ => vs) (tCons (cVar 0) (tCons (tC (.int 0)) (tCons (cVar 1) tNil))) tNil W))))
theorem ife_no {j : Nat} {w k : Int} {T U : TS} (hj : σ[j]? = some (some (.int w))) (ne : w ≠ k) (q : U D σ H) : tIfS (cTest (tOp (oEqG (gg K S)) (cVar j) (tC (.int k)))) T U D σ H := by
  refine ifS_ fun A B hA hB => test_ (op_ (var_ hj (const_ (eq_scal rfl rfl rfl ?_))))
  exact iff_f (by simp [ne]) (hB _ q)
theorem ife_yes {j : Nat} {w k : Int} {T U : TS} (hj : σ[j]? = some (some (.int w))) (e : w = k) (q : T D σ H) : tIfS (cTest (tOp (oEqG (gg K S)) (cVar j) (tC (.int k)))) T U D σ H := by
  refine ifS_ fun A B hA hB => test_ (op_ (var_ hj (const_ (eq_scal rfl rfl rfl ?_))))
  exact iff_t (by simp [e]) (hA _ q)
theorem door_no {W : WX} {x2 x3 : V} {j : Nat} (hj : j < 3) (l : Lk H v) (nc : ¬ Crd H v) (r : Rf K H "NoCard" v fun cls d H' => W cls d [some v, some w, some x2, some x3, some (.int (j : Nat)), none] H') : doorB K (SP K (n+6)) W D [some v, some w, some x2, some x3, some (.int (j : Nat)), none] H := by
  unfold doorB
  rcases (by omega : j = 0 ∨ j = 1 ∨ j = 2) with rfl | rfl | rfl
  · exact ife_yes rfl rfl (drop_ (call_ (cva_ rfl (cva_ rfl (nil_ (nil_ ⟨rfl, rfl, s_first_wrong_no (n := n) l nc r⟩))))))
  · exact ife_no rfl (by decide) (ife_yes rfl rfl (drop_ (call_ (cva_ rfl (cva_ rfl (nil_ (nil_ ⟨rfl, rfl, s_whole_text_no (n := n) l nc r⟩)))))))
  · exact ife_no rfl (by decide) (ife_no rfl (by decide) (drop_ (call_ (cva_ rfl (con_ (cva_ rfl (nil_ (nil_ ⟨rfl, rfl, s_fits_no (n := n + 1) l nc r⟩))))))))
theorem door_list {W : WX} {x2 x3 : V} {j : Nat} (hj : j < 3) (hc : CdH H v ks c) (oc : OkC ks c) (k : Kd H w m) (hs : okSc w) (r : j < 2 → Rf K H "NoList" w fun cls d H' => W cls d [some v, some w, some x2, some x3, some (.int (j : Nat)), none] H') (q : j = 2 → ∀ H', Ex H H' → D.nx [some v, some w, some x2, some x3, some (.int (j : Nat)), none] H') : doorB K (SP K (n+6)) W D [some v, some w, some x2, some x3, some (.int (j : Nat)), none] H := by
  unfold doorB
  have h1 : (decide (m = "list") || decide (m = "tuple")) = false := by
    cases k <;> first | decide | exact hs.elim
  have h2 : m ≠ "dict" := by
    cases k <;> first | decide | exact hs.elim
  rcases (by omega : j = 0 ∨ j = 1 ∨ j = 2) with rfl | rfl | rfl
  · exact ife_yes rfl rfl (drop_ (call_ (cva_ rfl (cva_ rfl (nil_ (nil_ ⟨rfl, rfl, s_first_wrong_bad (n := n) hc oc k (.inl h1) (r (by decide))⟩))))))
  · exact ife_no rfl (by decide) (ife_yes rfl rfl (drop_ (call_ (cva_ rfl (cva_ rfl (nil_ (nil_ ⟨rfl, rfl, s_whole_text_bad (n := n) hc oc k (.inl h2) (r (by decide))⟩)))))))
  · exact ife_no rfl (by decide) (ife_no rfl (by decide) (drop_ (call_ (cva_ rfl (con_ (cva_ rfl (nil_ (nil_ ⟨rfl, rfl, s_fits (n := n + 1) hc oc (.int _) k (.inl hs) fun H' e => q rfl H' e⟩))))))))
end
end WR.L

set_option Elab.async false
set_option linter.all false
set_option maxRecDepth 100000
set_option maxHeartbeats 400000
namespace WR.L
open PySem PySem.Spec PyProof.Rows L2
section
variable {K : PySem.W.Frag} {n : Nat} {H H' H1 : Hp} {Q : VK} {E : XK} {v w x : V} {N M M2 : Nat} {σ : L2.St} {D : Ends} {xs ys : List V} {S : Str → Sp} {b : Addr} {ks : Str} {c : CD} {m : String}
theorem eq_lst {a q : Addr} {ds es : List PyData} (ha : H a = some (.lst xs)) (hq : H q = some (.lst ys)) (da : DpAll K H xs ds) (dq : DpAll K H ys es) (s1 : SeqAt.shaped (.list ds) = true) (s2 : SeqAt.shaped (.list es) = true) (z : Q (.bl (PyData.eqv (.list ds) (.list es))) H) : oEqG (gg K S) (.ref a) (.ref q) H Q := by
  refine .inl ?_
  unfold oEqG0
  rw [ins_lst (look_of_lst (K := K) ha)]
  exact .inl (.inr ⟨_, _, .lst (.inl (.inl ha)) da, .lst (.inl (.inl hq)) dq, s1, s2, z⟩)
def trus (j : Nat) : List V := (List.range j).map fun _ => V.bl true
theorem trus_succ (j : Nat) : trus (j + 1) = trus j ++ [.bl true] := by
  unfold trus
  rw [List.range_succ, List.map_append]
  rfl
theorem trus_len (j : Nat) : (trus j).length = j := by simp [trus]
theorem s__law_refused_card (hX : Hx K) (hv : Od H N v) (hN : N ≤ 20) (nc : ¬ Crd H v) (h : ∀ H', Gw v H H' → Q (.bl true) H') : SP K (n+7) "_law_refused" [v, w, .str "card"] H Q E := by
  refine o__law_refused ?_
  unfold r__law_refused
  refine seq_ fun N1 h1 => asg_ (lst_ (nil_ ⟨sz1 (by simp), fun L hL => h1 _ _ ?_⟩))
  simp only [List.set_cons_zero, List.set_cons_succ]
  have hvL : v ≠ .ref L := hv.ne hL
  have x1 : Ex H (upd H L (.lst [])) := Ex.refl.new hL
  have k1 : upd H L (.lst []) L = some (.lst (trus 0)) := upd_same
  have nc1 : ¬ Crd (upd H L (.lst [])) v := crd_put (fun us z => by rw [hL] at z; cases z) hvL hv nc fun us z => nomatch z
  have hv1 := hv.ex x1
  generalize upd H L (.lst []) = H1 at *
  refine seq_ fun N2 h2 => for_ (tup_ (con_ (con_ (con_ (nil_ ⟨sz1 (by simp), fun T hT => cit_tup upd_same ?_⟩)))))
  have x2 : Ex H1 (upd H1 T (.tup [.int 0, .int 1, .int 2])) := Ex.refl.new hT
  have kT : upd H1 T (.tup [.int 0, .int 1, .int 2]) T = some (.tup [.int 0, .int 1, .int 2]) := upd_same
  have nT : T ≠ L := fun z => by rw [z, k1] at hT; cases hT
  have nc2 : ¬ Crd (upd H1 T (.tup [.int 0, .int 1, .int 2])) v := fun z => nc1 (crd_back x2 hv1.th z)
  have k2 := x2 _ _ k1
  have hv2 := hv1.ex x2
  have g2 : Gw v H (upd H1 T (.tup [.int 0, .int 1, .int 2])) := Gw.ex (x1.trans x2)
  generalize upd H1 T (.tup [.int 0, .int 1, .int 2]) = H2 at *
  refine lp_inv (n := 3) (fun j σ H' => (∃ x4, σ = [some v, some w, some (.str "card"), some (.ref L), x4, none]) ∧ Gw v H H' ∧ H' L = some (.lst (trus j)) ∧ Od H' (N + j) v ∧ ¬ Crd H' v ∧ H' T = some (.tup [.int 0, .int 1, .int 2])) ?_ ?_ ⟨⟨_, rfl⟩, g2, k2, hv2, nc2, kT⟩
  · rintro σ H3 ⟨⟨x4, rfl⟩, g3, k3, hv3, nc3, kT3⟩
    refine ⟨itt_stop kT3 (by simp), h2 _ _ (ret_ (tif_ (test_ (op_ (var_ rfl (const_ (eq_scal rfl rfl rfl ?_)))))))⟩
    rw [decide_eq_true rfl]
    refine op_ (var_ rfl (lst_ (con_ (con_ (con_ (nil_ ⟨sz1 (by simp), fun p hp => ?_⟩))))))
    have x4 : Ex H3 (upd H3 p (.lst [.bl true, .bl true, .bl true])) := Ex.refl.new hp
    refine eq_lst (x4 _ _ k3) upd_same (.cons (.bl true) (.cons (.bl true) (.cons (.bl true) .nil))) (.cons (.bl true) (.cons (.bl true) (.cons (.bl true) .nil))) rfl rfl ?_
    exact h _ (g3.trans (.ex x4))
  · rintro j σ H3 hj ⟨⟨x4, rfl⟩, g3, k3, hv3, nc3, kT3⟩ R hR
    refine ⟨itt_go kT3 (by simpa using hj), ?_⟩
    intro y H4 hy
    obtain ⟨rfl, hy2⟩ := itt_yld kT3 hy
    have ey : y = .int (j : Nat) := by
      rcases (by omega : j = 0 ∨ j = 1 ∨ j = 2) with rfl | rfl | rfl <;> exact (Option.some.inj hy2).symm
    subst ey
    simp only [tTryW]
    refine door_no (n := n) hj hv3.th.lk nc3 fun x H5 e5 hx5 => ?_
    obtain ⟨f1, f2, f3⟩ := xcX_ok hX.xNoCard
    refine ⟨true, f1 (He.ga K "NoCard", true) (List.mem_of_getElem? (i := 3) rfl), fun _ a ha => ?_, fun q => nomatch q⟩
    have hv5 := hv3.ex e5
    have nc5 : ¬ Crd H5 v := fun z => nc3 (crd_back e5 hv3.th z)
    refine seq_ fun N4 h4 => drop_ (call1_ rfl (s_grown_th (n := n + 5) hv5.th (by omega) fun H6 g => h4 _ _ ?_))
    have gw := g.gw
    have hx6 := gw.1 _ _ (hv5.th.ne_xd hx5) hx5
    have k6 := gw.1 _ _ hvL (e5 _ _ k3)
    have hv6 := hv5.grown g
    have nc6 := crd_grown g nc5
    have kT6 := gw.2 _ _ (e5 _ _ kT3)
    have g6 : Gw v H H6 := (g3.trans (.ex e5)).trans gw
    refine drop_ (mCB_blt (var_ rfl ⟨ins_lst (look_of_lst (K := K) k6), "list", tyB_lst (look_of_lst k6), _, b_append, cons_ (and_ (op_ (var_ rfl (const_ (eqH_sc rfl ?_)))))⟩) fun P P' hh q => mono_var hh q)
    rw [decide_eq_true rfl]
    simp only [oTru]
    refine found_H rfl ⟨⟨"NoCard", He.ga K "NoCard", "found"⟩, by rw [xcs_all]; exact List.mem_of_getElem? (i := 1) rfl, rfl, rfl⟩ hx6 (repr_th hv6.th (by omega)) (fun P q => var_ rfl q) (nil_ (mApp k6 (by rw [trus_len]; exact small1000 (by omega)) ?_))
    have nl : ∀ us, H6 L ≠ some (.tup us) := fun us z => by rw [k6] at z; cases z
    refine hR _ _ ⟨⟨_, rfl⟩, gw_put g6 hL, by rw [upd_same, trus_succ], (hv6.put nl hvL).up (by omega), crd_put nl hvL hv6 nc6 (fun us z => nomatch z), by rw [upd_ne nT]; exact kT6⟩
theorem s__law_refused_list (hX : Hx K) (hc : CdH H v ks c) (oc : OkC ks c) (hs : okSc w) (h : ∀ H', Ex H H' → Q (.bl true) H') : SP K (n+7) "_law_refused" [v, w, .str "list"] H Q E := by
  refine o__law_refused ?_
  unfold r__law_refused
  refine seq_ fun N1 h1 => asg_ (lst_ (nil_ ⟨sz1 (by simp), fun L hL => h1 _ _ ?_⟩))
  simp only [List.set_cons_zero, List.set_cons_succ]
  have x1 : Ex H (upd H L (.lst [])) := Ex.refl.new hL
  have k1 : upd H L (.lst []) L = some (.lst (trus 0)) := upd_same
  generalize upd H L (.lst []) = H1 at *
  refine seq_ fun N2 h2 => for_ (tup_ (con_ (con_ (con_ (nil_ ⟨sz1 (by simp), fun T hT => cit_tup upd_same ?_⟩)))))
  have x2 : Ex H1 (upd H1 T (.tup [.int 0, .int 1, .int 2])) := Ex.refl.new hT
  have kT : upd H1 T (.tup [.int 0, .int 1, .int 2]) T = some (.tup [.int 0, .int 1, .int 2]) := upd_same
  have nT : T ≠ L := fun z => by rw [z, k1] at hT; cases hT
  have k2 := x2 _ _ k1
  have g2 : Ex H (upd H1 T (.tup [.int 0, .int 1, .int 2])) := x1.trans x2
  generalize upd H1 T (.tup [.int 0, .int 1, .int 2]) = H2 at *
  obtain ⟨m, km⟩ := sc_kd (H := H) hs
  refine lp_inv (n := 3) (fun j σ H' => (∃ x4, σ = [some v, some w, some (.str "list"), some (.ref L), x4, none]) ∧ Ex H H' ∧ H' L = some (.lst (trus (min j 2))) ∧ H' T = some (.tup [.int 0, .int 1, .int 2])) ?_ ?_ ⟨⟨_, rfl⟩, g2, k2, kT⟩
  · rintro σ H3 ⟨⟨x4, rfl⟩, g3, k3, kT3⟩
    refine ⟨itt_stop kT3 (by simp), h2 _ _ (ret_ (tif_ (test_ (op_ (var_ rfl (const_ (eq_scal rfl rfl rfl ?_)))))))⟩
    rw [decide_eq_false (by decide +kernel : ¬ V.str "list" = V.str "card")]
    simp only [Bool.false_eq_true, if_false]
    refine op_ (var_ rfl (lst_ (con_ (con_ (nil_ ⟨sz1 (by simp), fun p hp => ?_⟩)))))
    have x4 : Ex H3 (upd H3 p (.lst [.bl true, .bl true])) := Ex.refl.new hp
    refine eq_lst (x4 _ _ k3) upd_same (.cons (.bl true) (.cons (.bl true) .nil)) (.cons (.bl true) (.cons (.bl true) .nil)) rfl rfl ?_
    exact h _ (g3.trans x4)
  · rintro j σ H3 hj ⟨⟨x4, rfl⟩, g3, k3, kT3⟩ R hR
    refine ⟨itt_go kT3 (by simpa using hj), ?_⟩
    intro y H4 hy
    obtain ⟨rfl, hy2⟩ := itt_yld kT3 hy
    have ey : y = .int (j : Nat) := by
      rcases (by omega : j = 0 ∨ j = 1 ∨ j = 2) with rfl | rfl | rfl <;> exact (Option.some.inj hy2).symm
    subst ey
    simp only [tTryW]
    refine door_list (n := n) hj (hc.ex g3) oc (km.ex g3) hs (fun j2 x H5 e5 hx5 => ?_) fun j2 H5 e5 => ?_
    · obtain ⟨f1, f2, f3⟩ := xcX_ok hX.xNoList
      refine ⟨false, f1 (He.ga K "NoCard", false) (List.mem_of_getElem? (i := 3) rfl), (fun q => nomatch q), fun _ => ?_⟩
      refine ⟨true, f1 (He.ga K "NoList", true) (List.mem_of_getElem? (i := 4) rfl), fun _ a ha => ?_, fun q => nomatch q⟩
      have t5 : Th H5 0 w := .tt (.sc hs)
      refine seq_ fun N4 h4 => drop_ (call1_ rfl (s_grown_th (n := n + 5) t5 (by omega) fun H6 g => h4 _ _ ?_))
      have gw := gw_sc hs g.gw
      have hx6 := gw _ _ hx5
      have k6 := gw _ _ (e5 _ _ k3)
      have kT6 := gw _ _ (e5 _ _ kT3)
      rw [Nat.min_eq_left (by omega)] at k6
      refine drop_ (mCB_blt (var_ rfl ⟨ins_lst (look_of_lst (K := K) k6), "list", tyB_lst (look_of_lst k6), _, b_append, cons_ (and_ (op_ (var_ rfl (const_ (eqH_sc rfl ?_)))))⟩) fun P P' hh q => mono_var hh q)
      rw [decide_eq_true rfl]
      simp only [oTru]
      refine and_ (op_ (var_ rfl (const_ ?_)))
      simp only [oLt]
      rw [decide_eq_true (by omega : ((j : Nat) : Int) < 2)]
      simp only [oTru]
      refine found_H rfl ⟨⟨"NoList", He.ga K "NoList", "found"⟩, by rw [xcs_all]; exact List.mem_of_getElem? (i := 2) rfl, rfl, rfl⟩ hx6 (repr_th (N := 0) (.tt (.sc hs)) (by omega)) (fun P q => var_ rfl q) (nil_ (mApp k6 (by rw [trus_len]; exact small1000 (by omega)) ?_))
      refine hR _ _ ⟨⟨_, rfl⟩, fun b u e => ?_, ?_, by rw [upd_ne nT]; exact kT6⟩
      · rw [upd_ne (fun z => by rw [z, hL] at e; cases e)]
        exact (g3.trans (e5.trans gw)) _ _ e
      · rw [upd_same, Nat.min_eq_left (by omega), trus_succ]
    · subst j2
      exact hR _ _ ⟨⟨_, rfl⟩, g3.trans e5, e5 _ _ k3, e5 _ _ kT3⟩
end
end WR.L

set_option Elab.async false
set_option linter.all false
set_option maxRecDepth 100000
set_option maxHeartbeats 400000
namespace WR.L
open PySem PySem.Spec PyProof.Rows L2
section
variable {K : PySem.W.Frag} {n : Nat} {H H' H1 : Hp} {Q : VK} {E : XK} {v w x : V} {N M M2 : Nat} {σ : L2.St} {D : Ends} {xs ys : List V} {S : Str → Sp} {b : Addr} {ks : Str} {c : CD} {m : String} {kvs : List (Key × V)}
/-! ## charts: dicts of pieces by their places -/
def okK : Key → Prop
  | .inl i => i.natAbs < 10 ^ 40
  | .inr s => s.length ≤ 100 ∧ As s
def ChP (H : Hp) (b : Addr) (w : V) (M : Nat) (kvs : List (Key × V)) : Prop := ∃ p, w = .ref p ∧ p ≠ b ∧ H p = some (.dK kvs) ∧ kvs.length ≤ M ∧ ∀ kv ∈ kvs, okK kv.1 ∧ Itm H kv.2
theorem ChP.ch (h : ChP H b w M kvs) : ChH H w kvs := by
  obtain ⟨p, a, _, c, _⟩ := h
  exact ⟨p, a, c⟩
theorem ChP.ex (e : Ex H H') (h : ChP H b w M kvs) : ChP H' b w M kvs := by
  obtain ⟨p, a, c, d, l, i⟩ := h
  exact ⟨p, a, c, e _ _ d, l, fun x hx => ⟨(i x hx).1, (i x hx).2.ex e⟩⟩
theorem ChP.fr (hb : Bx H b N) (f : Fr [b] H H') (h : ChP H b w M kvs) : ChP H' b w M kvs := by
  obtain ⟨p, a, c, d, l, i⟩ := h
  exact ⟨p, a, c, fr_at f c d, l, fun x hx => ⟨(i x hx).1, (i x hx).2.fr hb f⟩⟩
def itmD : V → PyData
  | .non => .none
  | .int i => .int i
  | .str s => .str s
  | _ => .list [.str "a"]
theorem itm_dx (h : Itm H x) : Dx K H x (itmD x) ∧ Shw (itmD x) 1100 1 := by
  have sc : okSc x → (∀ d, Dx K H x d → d = itmD x) → Dx K H x (itmD x) ∧ Shw (itmD x) 1100 1 := fun o u => by
    obtain ⟨d, a, b⟩ := sc_dx (K := K) (H := H) o
    obtain rfl := u d a
    exact ⟨a, b.s, Nat.le_trans b.dp (by decide), b.l⟩
  rcases h with rfl | ⟨i, rfl, i0, i1⟩ | ⟨s, rfl, a, b, _⟩ | ⟨p, rfl, h⟩
  · exact sc trivial fun d e => by cases e; rfl
  · exact sc (sc_i i0 i1) fun d e => by cases e; rfl
  · exact sc ⟨by omega, b⟩ fun d e => by cases e; rfl
  · exact ⟨.lst (look_of_lst h) (.cons (.str _) .nil), (⟨by decide +kernel, by decide +kernel, by decide +kernel⟩ : Shw (.list [.str "a"]) 1100 1)⟩
theorem key_shw (K : PySem.W.Frag) {k : Key} (h : okK k) : Shw (kD k) 1100 0 := by
  cases k with
  | inl i =>
    obtain ⟨d, a, b⟩ := sc_dx (K := K) (H := fun _ => none) (v := .int i) h
    cases a
    exact b
  | inr s =>
    obtain ⟨d, a, b⟩ := sc_dx (K := K) (H := fun _ => none) (v := .str s) h
    cases a
    exact b
def chD (kvs : List (Key × V)) : List (PyData × PyData) := kvs.map fun kv => (kD kv.1, itmD kv.2)
theorem ch_dx : ∀ {kvs : List (Key × V)}, (∀ kv ∈ kvs, Itm H kv.2) → DxKv K H kvs (chD kvs)
  | [], _ => .nil
  | (k, v) :: kvs, h => .cons (itm_dx (h (k, v) List.mem_cons_self)).1 (ch_dx fun kv hk => h kv (List.mem_cons_of_mem _ hk))
theorem ch_shw (K : PySem.W.Frag) : ∀ {kvs : List (Key × V)}, (∀ kv ∈ kvs, okK kv.1 ∧ Itm H kv.2) → PyData.showableKv (chD kvs) = true ∧ PyData.depthKv (chD kvs) ≤ 1 ∧ (PyData.shownKv (chD kvs)).length = kvs.length ∧ ∀ t ∈ PyData.shownKv (chD kvs), t.length ≤ 2300
  | [], _ => ⟨rfl, Nat.zero_le _, rfl, fun t ht => nomatch ht⟩
  | (k, v) :: kvs, h => by
    obtain ⟨a2, a3, a4, a5⟩ := ch_shw K (kvs := kvs) fun v hv => h v (List.mem_cons_of_mem _ hv)
    obtain ⟨hk, hi⟩ := h (k, v) List.mem_cons_self
    have s1 : Shw (kD k) 1100 0 := key_shw K hk
    have s2 : Shw (itmD v) 1100 1 := (itm_dx (K := K) hi).2
    refine ⟨?_, ?_, ?_, fun t ht => ?_⟩
    · show ((kD k).showable && (itmD v).showable && PyData.showableKv (chD kvs)) = true
      rw [s1.s, s2.s, a2]; rfl
    · show max (max (kD k).depth (itmD v).depth) (PyData.depthKv (chD kvs)) ≤ 1
      have := s1.dp
      have := s2.dp
      omega
    · show (((kD k).shown ++ ": " ++ (itmD v).shown) :: PyData.shownKv (chD kvs)).length = _
      rw [List.length_cons, List.length_cons, a4]
    · rcases List.mem_cons.mp (show t ∈ ((kD k).shown ++ ": " ++ (itmD v).shown) :: PyData.shownKv (chD kvs) from ht) with rfl | ht
      · have := s1.l
        have := s2.l
        have e : (": " : Str).length = 2 := rfl
        rw [strLen_append, strLen_append]
        omega
      · exact a5 t ht
theorem ChP.rp (h : ChP H b w M kvs) (hM : M ≤ 200) : ∃ t, RpD K H w t := by
  obtain ⟨p, rfl, _, hp, hl, hi⟩ := h
  refine ⟨(PyData.dict (chD kvs)).shown, fun H' e Q q => ?_⟩
  obtain ⟨a2, a3, a4, a5⟩ := ch_shw K hi
  refine repr_d (L := 1000000) (k := 2) (.dic (.inl (e _ _ hp)) (ch_dx fun kv hk => (hi kv hk).2.ex e)) ⟨a2, ?_, ?_⟩ (by decide) (by decide) q
  · show PyData.depthKv (chD kvs) + 1 ≤ 2; omega
  · have := dictText_le a5
    show (dictText (PyData.shownKv (chD kvs))).length ≤ _
    have e : (PyData.shownKv (chD kvs)).length * (2300 + 2) ≤ 200 * (2300 + 2) := Nat.mul_le_mul_right _ (by omega)
    omega
theorem ChP.cm (h : ChP H b w M kvs) : ∀ kv ∈ kvs, Cm H kv.2 := by
  obtain ⟨p, rfl, _, hp, hl, hi⟩ := h
  exact fun kv hk => (hi kv hk).2.cm
theorem whole_right_ch (hX : Hx K) (hc : CdH H v ks c) (oc : OkC ks c) (ch : ChP H b w M kvs) (hM : M ≤ 100) (h : ∀ H', Ex H H' → Q (.bl true) H') : SP K (n+7) "_law_whole_right" [v, w] H Q E := by
  have hl : kvs.length ≤ M := by obtain ⟨_, _, _, _, l, _⟩ := ch; exact l
  exact s__law_whole_right hX hc oc ch.ch (by omega) ch.cm (ch.rp (by omega)) h
/-! ## dicts of pairs -/
theorem put_mem {k : Key} {v : V} : ∀ kv ∈ putK kvs k v, kv ∈ kvs ∨ kv = (k, v) := by
  intro kv hkv
  unfold putK at hkv
  split at hkv
  · obtain ⟨q, hq, rfl⟩ := List.mem_map.mp hkv
    split
    · rename_i e; rw [e]; exact .inr rfl
    · exact .inl hq
  · rcases List.mem_append.mp hkv with hq | hq
    · exact .inl hq
    · rw [List.mem_singleton] at hq; exact .inr hq
theorem merge_mem : ∀ (more kvs : List (Key × V)), ∀ kv ∈ mergeK kvs more, kv ∈ kvs ∨ kv ∈ more
  | [], kvs, kv, h => .inl h
  | p :: r, kvs, kv, h => by
    rcases merge_mem r (putK kvs p.1 p.2) kv h with h | h
    · rcases put_mem kv h with h | h
      · exact .inl h
      · exact .inr (by rw [h]; exact List.mem_cons_self)
    · exact .inr (List.mem_cons_of_mem _ h)
/-- pairs that stand at ts -/
def PrT (H : Hp) (ts : List Addr) (kvs : List (Key × V)) : Prop := Paired (fun p (kv : Key × V) => H p = some (.tup [kV kv.1, kv.2])) ts kvs
theorem PrT.ex {ts : List Addr} (e : Ex H H') (h : PrT H ts kvs) : PrT H' ts kvs := Paired.mapP h fun _ _ a => e _ _ a
theorem PrT.len {ts : List Addr} (h : PrT H ts kvs) : ts.length = kvs.length := Paired.length h
theorem dict_pairs {p : Addr} {ts : List Addr} (hp : H p = some (.lst (ts.map V.ref))) (h : PrT H ts kvs) (q : ∀ l, H l = none → Q (.ref l) (upd H l (.dK (mergeK [] kvs)))) : bDict K [.ref p] H Q := by
  simp only [bDict, look_of_lst (K := K) hp]
  exact ⟨ts, kvs, rfl, Paired.mapP h fun _ _ a => look_tup (look_of_tup a), q⟩
theorem chart_new {l : Addr} (hb : Bx H b N) (hl : H l = none) (h : kvs.length ≤ M) (hi : ∀ kv ∈ kvs, okK kv.1 ∧ Itm H kv.2) : ChP (upd H l (.dK (mergeK [] kvs))) b (.ref l) M (mergeK [] kvs) := by
  refine ⟨l, rfl, bx_ne hb hl, upd_same, ?_, fun kv hk => ?_⟩
  · have := length_mergeK kvs []
    rw [List.length_nil] at this
    omega
  · rcases merge_mem _ _ kv hk with h | h
    · cases h
    · exact ⟨(hi kv h).1, (hi kv h).2.ex (Ex.refl.new hl)⟩
end
end WR.L

set_option Elab.async false
set_option linter.all false
set_option maxRecDepth 100000
set_option maxHeartbeats 400000
namespace WR.L
open PySem PySem.Spec PyProof.Rows L2
section
variable {K : PySem.W.Frag} {n : Nat} {H H' H1 : Hp} {Q : VK} {E : XK} {v w x : V} {N M M2 : Nat} {σ : L2.St} {D : Ends} {xs ys : List V} {S : Str → Sp} {b : Addr} {ks : Str} {c : CD} {m : String} {kvs : List (Key × V)}
theorem PrT.tp {ts : List Addr} (e : Tp H H') (h : PrT H ts kvs) : PrT H' ts kvs := Paired.mapP h fun _ _ a => e _ _ a
/-- [(.., ..) for i in range(k)] -/
theorem lc_pr {k : Nat} {kv : Nat → Key × V} {i : Nat} {σ : L2.St} {te : TE} (hk : k ≤ 900)
    (hf : ∀ (j : Nat) H1 (R : VK), j < k → Ex H H1 → (∀ T, H1 T = none → R (.ref T) (upd H1 T (.tup [kV (kv j).1, (kv j).2]))) → te (σ.set i (some (.int (j : Nat)))) H1 R)
    (h : ∀ D H' ts, Ex H H' → H' D = some (.lst (ts.map V.ref)) → PrT H' ts ((List.range k).map kv) → Q (.ref D) H') (hw : ∀ v, wipe (σ.set i (some v)) [i] = wipe σ [i]) (hw2 : wipe σ [i] = σ) {D : Addr} (hD : H D = none) :
    ∃ n, lpc (Itr 0 k) (gName i) tYes te [i] σ D Q n 0 (upd H D (.lst [])) := by
  refine lpc_inv (n := k) (fun j H' => Ex H H' ∧ ∃ ts, H' D = some (.lst (ts.map V.ref)) ∧ PrT H' ts ((List.range j).map kv)) ?_ ?_ ⟨Ex.refl.new hD, [], by rw [upd_same]; rfl, .nil⟩
  · rintro H' ⟨h1, ts, h2, h3⟩
    exact ⟨Nat.le_refl _, h D H' ts h1 h2 h3⟩
  · rintro j H' hj ⟨h1, ts, h2, h3⟩ R hR
    refine ⟨hj, ?_⟩
    rintro x H2 hy
    obtain ⟨rfl, rfl⟩ := itr_yld hy
    rw [hw2]
    refine ⟨(hw _).trans hw2, yes_ ?_⟩
    rw [show (0 : Int) + (j : Int) = (j : Nat) from Int.zero_add _]
    refine hf j _ _ hj h1 fun T hT => ?_
    have x2 : Ex H2 (upd H2 T (.tup [kV (kv j).1, (kv j).2])) := Ex.refl.new hT
    have kT : upd H2 T (.tup [kV (kv j).1, (kv j).2]) T = some (.tup [kV (kv j).1, (kv j).2]) := upd_same
    generalize upd H2 T (.tup [kV (kv j).1, (kv j).2]) = H3 at *
    have kD := x2 _ _ h2
    have tl := h3.len
    rw [List.length_map, List.length_range] at tl
    refine ⟨_, kD, by rw [List.length_map, tl]; exact small1000 (by omega), hR _ ⟨?_, ts ++ [T], ?_, ?_⟩⟩
    · exact (h1.trans x2).new hD
    · rw [upd_same, List.map_append]; rfl
    · have tp : Tp H3 (upd H3 D (.lst (ts.map V.ref ++ [.ref T]))) := tp_put fun us z => by rw [kD] at z; cases z
      rw [List.range_succ, List.map_append]
      exact Paired.snoc ((h3.ex x2).tp tp) (tp _ _ kT)
def xx (k : Nat) : List Str := List.replicate k "x"
theorem xx_okS {k : Nat} : ∀ s ∈ xx k, okS s := fun s hs => by
  rw [List.eq_of_mem_replicate hs]
  exact okS_of (by decide +kernel)
theorem mul_lst {p : Addr} {k : Int} (h : H p = some (.lst xs)) (h0 : 0 ≤ k) (hk : xs.length * k.toNat ≤ 1000) (h1 : k < 2 ^ 63) (q : ∀ q, H q = none → Q (.ref q) (upd H q (.lst (List.replicate k.toNat xs).flatten))) : oMul (.ref p) (.int k) H Q := by
  simp only [oMul, h]
  exact ⟨by omega, h1, Nat.le_of_lt (small1000 hk), q⟩
theorem flat101 : (List.replicate (101 : Int).toNat [V.str "x"]).flatten = (xx 101).map V.str := by kernel_rfl
theorem flat100 : (List.replicate (100 : Int).toNat [V.str "x"]).flatten = (xx 100).map V.str := by kernel_rfl
/-- the error's thing is it -/
theorem founde_H {i : Nat} {a x c : Addr} {te : TE} {r : R2} {R : VK} (h5 : σ[i]? = some (some (.ref a))) (hc : ∃ y ∈ (gg K S).xcs, y.f = "found" ∧ c = y.C) (hx : H x = some (.xd [("found", v)])) (q : te σ H fun y H1 => r v y H1 R) :
    tOp r (cXf (gg K S) i a (.ref c) (some x) "found") te σ H R := by
  obtain ⟨y, hy, hf, rfl⟩ := hc
  exact op_ ⟨h5, y, hy, hf, rfl, x, [("found", v)], v, rfl, hx, rfl, q⟩
theorem s__law_too_many_list (hX : Hx K) (hc : CdH H v ks c) (oc : OkC ks c) {p : Addr} (hp : H p = some (.lst ((xx 101).map V.str))) (h : ∀ H', Ex H H' → Q (.bl true) H') : SP K (n+7) "_law_too_many" [v, .ref p] H Q E := by
  refine o__law_too_many ?_
  unfold r__law_too_many
  refine seq_ fun N1 h1 => ?_
  simp only [tTryW]
  refine ifS_ fun A B hA hB => tru_ (cb_ (cva_ rfl (con_ (nil_ (isi_k (Kd.lst hp) (by decide) ?_)))))
  simp only [show isK "list" "dict" = false from rfl, oTru, Bool.false_eq_true, if_false]
  refine hB _ (drop_ (call_ (cva_ rfl (cva_ rfl (nil_ (nil_ ⟨rfl, rfl, s_first_wrong_bad (n := n) hc oc (Kd.lst hp) (.inr ⟨_, ⟨p, rfl, .inl hp⟩, by rw [List.length_map]; decide⟩) fun x H2 e2 hx2 => ?_⟩))))))
  obtain ⟨f1, f2, f3⟩ := xcX_ok hX.xNoList
  refine ⟨true, f1 (He.ga K "NoList", true) (List.mem_of_getElem? (i := 4) rfl), fun _ a ha => ?_, fun q => nomatch q⟩
  refine ret_ (founde_H rfl ⟨⟨"NoList", He.ga K "NoList", "found"⟩, by rw [xcs_all]; exact List.mem_of_getElem? (i := 2) rfl, rfl, rfl⟩ hx2 (var_ rfl ?_))
  have hp2 := e2 _ _ hp
  refine .inl (.inr ⟨_, _, .lst (.inl (.inl hp2)) (dpStrs _), .lst (.inl (.inl hp2)) (dpStrs _), shaped_strs xx_okS, shaped_strs xx_okS, ?_⟩)
  have : PyData.eqv (.list ((xx 101).map PyData.str)) (.list ((xx 101).map PyData.str)) = true := by decide +kernel
  rw [this]
  exact h _ e2
def dk (a k : Nat) : List (Key × V) := (List.range k).map fun (j : Nat) => (.inl ((j : Int) + a), .str "x")
theorem dk_merge : mergeK [] (dk 0 101) = dk 0 101 := by kernel_rfl
def xD (kvs : List (Key × V)) : List (Key × PyData) := kvs.map fun kv => (kv.1, .str "x")
theorem xD_dp : ∀ {kvs : List (Key × V)}, (∀ kv ∈ kvs, kv.2 = .str "x") → DpKv K H kvs (xD kvs)
  | [], _ => .nil
  | (k, v) :: kvs, h => by
    have e : v = .str "x" := h (k, v) List.mem_cons_self
    subst e
    exact .cons (.str _) (by decide +kernel) (xD_dp fun kv hk => h kv (List.mem_cons_of_mem _ hk))
theorem dk_x {a k : Nat} : ∀ kv ∈ dk a k, kv.2 = .str "x" := fun kv h => by
  obtain ⟨j, _, rfl⟩ := List.mem_map.mp h
  rfl
theorem s__law_too_many_dict (hX : Hx K) (hc : CdH H v ks c) (oc : OkC ks c) {p : Addr} (hp : H p = some (.dK (dk 0 101))) (h : ∀ H', Ex H H' → Q (.bl true) H') : SP K (n+7) "_law_too_many" [v, .ref p] H Q E := by
  refine o__law_too_many ?_
  unfold r__law_too_many
  refine seq_ fun N1 h1 => ?_
  simp only [tTryW]
  refine ifS_ fun A B hA hB => tru_ (cb_ (cva_ rfl (con_ (nil_ (isi_k (Kd.dK hp) (by decide) ?_)))))
  simp only [show isK "dict" "dict" = true from rfl, oTru, if_true]
  refine hA _ (drop_ (call_ (cva_ rfl (cva_ rfl (nil_ (nil_ ⟨rfl, rfl, s_whole_text_bad (n := n) hc oc (Kd.dK hp) (.inr ⟨_, ⟨p, rfl, hp⟩, by simp [dk]⟩) fun x H2 e2 hx2 => ?_⟩))))))
  obtain ⟨f1, f2, f3⟩ := xcX_ok hX.xNoList
  refine ⟨true, f1 (He.ga K "NoList", true) (List.mem_of_getElem? (i := 4) rfl), fun _ a ha => ?_, fun q => nomatch q⟩
  refine ret_ (founde_H rfl ⟨⟨"NoList", He.ga K "NoList", "found"⟩, by rw [xcs_all]; exact List.mem_of_getElem? (i := 2) rfl, rfl, rfl⟩ hx2 (var_ rfl ?_))
  have hp2 := e2 _ _ hp
  refine .inr ⟨p, p, _, _, _, _, rfl, rfl, hp2, hp2, xD_dp dk_x, xD_dp dk_x, ?_⟩
  have : ((dk 0 101).length == (dk 0 101).length && eqKv (xD (dk 0 101)) (xD (dk 0 101))) = true := by decide +kernel
  rw [this]
  exact h _ e2
end
end WR.L

set_option Elab.async false
set_option linter.all false
set_option maxRecDepth 100000
set_option maxHeartbeats 400000
namespace WR.L
open PySem PySem.Spec PyProof.Rows L2
section
variable {K : PySem.W.Frag} {n k : Nat} {H H' H0 H1 : Hp} {Q : VK} {E : XK} {v w x : V} {N M M2 : Nat} {σ : L2.St} {D : Ends} {xs ys : List V} {S : Str → Sp} {b : Addr} {ks : Str} {c : CD} {m : String} {kvs : List (Key × V)}
/-- it is equal to itself, now and later -/
def SelfE (K : PySem.W.Frag) (H : Hp) (x : V) : Prop := ∀ H', Ex H H' → ∀ Q : VK, Q (.bl false) H' → oNeH K x x H' Q
theorem SelfE.ex (e : Ex H H') (h : SelfE K H x) : SelfE K H' x := fun H1 e1 => h H1 (e.trans e1)
def RowD (K : PySem.W.Frag) (H : Hp) (y : V) : Prop := ∃ t d x m, y = .ref t ∧ H t = some (.tup [.int d, x]) ∧ Kd H x m ∧ SelfE K H x ∧ ((d = 0 ∧ m ≠ "dict") ∨ (d = 1 ∧ (decide (m = "list") || decide (m = "tuple")) = false))
theorem RowD.ex (e : Ex H H') (h : RowD K H x) : RowD K H' x := by
  obtain ⟨t, d, x, m, a, b, c, s, r⟩ := h
  exact ⟨t, d, x, m, a, e _ _ b, c.ex e, s.ex e, r⟩
def BR (K : PySem.W.Frag) (te : TE) : Prop := ∀ (σ : L2.St) (H : Hp) (P : VK), (∀ x H1, Ex H H1 → RowD K H1 x → P x H1) → te σ H P
def BRs (K : PySem.W.Frag) (k : Nat) (ts : TA) : Prop := ∀ (σ : L2.St) (H : Hp) (R : List V → Hp → Prop), (∀ xs H1, Ex H H1 → xs.length = k → (∀ x ∈ xs, RowD K H1 x) → R xs H1) → ts σ H R
theorem BRs.nil : BRs K 0 tNil := fun σ H R h => h [] H Ex.refl rfl (fun x hx => nomatch hx)
theorem BRs.cons {te : TE} {ts : TA} (a : BR K te) (b : BRs K k ts) : BRs K (k+1) (tCons te ts) := fun σ H R h => a σ H _ fun x H1 e1 g => b σ H1 _ fun xs H2 e2 hl hg => h (x :: xs) H2 (e1.trans e2) (by simp [hl]) (fun z hz => by
  rcases List.mem_cons.mp hz with rfl | hz
  · exact g.ex e2
  · exact hg z hz)
theorem self_dp {d : PyData} (h : ∀ H', Ex H H' → Dp K H' x d) (s : SeqAt.shaped d = true) (e : PyData.eqv d d = true) : SelfE K H x := fun H1 e1 Q q => by
  refine .inl (.inr ⟨d, d, h H1 e1, h H1 e1, s, s, ?_⟩)
  rw [e]
  exact q
theorem self_dd {p : Addr} {ds : List (Key × PyData)} (hp : H p = some (.dK kvs)) (h : ∀ H' : Hp, DpKv K H' kvs ds) (e : eqKv ds ds = true) : SelfE K H (.ref p) := fun H1 e1 Q q => by
  refine .inr ⟨p, p, _, _, _, _, rfl, rfl, e1 _ _ hp, e1 _ _ hp, h H1, h H1, ?_⟩
  rw [e, beq_self_eq_true]
  exact q
theorem row1 : BR K (tTup (tCons (tC (.int 0)) (tCons (tLst tNil) tNil))) := fun σ H P q => by
  refine tup_ (con_ (cons_ (lst_ (nil_ ⟨sz1 (by simp), fun p hp => nil_ ⟨sz1 (by simp), fun t ht => q _ _ ((Ex.refl.new hp).trans (Ex.refl.new ht)) ?_⟩⟩))))
  have kp : upd (upd H p (.lst [])) t (.tup [.int 0, .ref p]) p = some (.lst []) := (Ex.refl.new ht) _ _ upd_same
  exact ⟨t, 0, _, _, rfl, upd_same, .lst kp, self_dp (d := .list []) (fun H' e => .lst (.inl (.inl (e _ _ kp))) .nil) rfl rfl, .inl ⟨rfl, by decide⟩⟩
theorem row2 : BR K (tTup (tCons (tC (.int 0)) (tCons (tLst (tCons (tC (.str "x")) tNil)) tNil))) := fun σ H P q => by
  refine tup_ (con_ (cons_ (lst_ (con_ (nil_ ⟨sz1 (by simp), fun p hp => nil_ ⟨sz1 (by simp), fun t ht => q _ _ ((Ex.refl.new hp).trans (Ex.refl.new ht)) ?_⟩⟩)))))
  have kp : upd (upd H p (.lst [.str "x"])) t (.tup [.int 0, .ref p]) p = some (.lst [.str "x"]) := (Ex.refl.new ht) _ _ upd_same
  exact ⟨t, 0, _, _, rfl, upd_same, .lst kp, self_dp (d := .list [.str "x"]) (fun H' e => .lst (.inl (.inl (e _ _ kp))) (.cons (.str _) .nil)) (by decide +kernel) (by decide +kernel), .inl ⟨rfl, by decide⟩⟩
theorem row3 : BR K (tTup (tCons (tC (.int 0)) (tCons (tTup (tCons (tC (.str "x")) tNil)) tNil))) := fun σ H P q => by
  refine tup_ (con_ (cons_ (tup_ (con_ (nil_ ⟨sz1 (by simp), fun p hp => nil_ ⟨sz1 (by simp), fun t ht => q _ _ ((Ex.refl.new hp).trans (Ex.refl.new ht)) ?_⟩⟩)))))
  have kp : upd (upd H p (.tup [.str "x"])) t (.tup [.int 0, .ref p]) p = some (.tup [.str "x"]) := (Ex.refl.new ht) _ _ upd_same
  exact ⟨t, 0, _, _, rfl, upd_same, .tup kp, self_dp (d := .tuple [.str "x"]) (fun H' e => dpTup (e _ _ kp) (.cons (.str _) .nil)) (by decide +kernel) (by decide +kernel), .inl ⟨rfl, by decide⟩⟩
theorem row4 : BR K (tTup (tCons (tC (.int 1)) (tCons tDNewK tNil))) := fun σ H P q => by
  refine tup_ (con_ (cons_ (fun p hp => nil_ ⟨sz1 (by simp), fun t ht => q _ _ ((Ex.refl.new hp).trans (Ex.refl.new ht)) ?_⟩)))
  have kp : upd (upd H p (.dK [])) t (.tup [.int 1, .ref p]) p = some (.dK []) := (Ex.refl.new ht) _ _ upd_same
  exact ⟨t, 1, _, _, rfl, upd_same, .dK kp, self_dd kp (ds := []) (fun H' => .nil) rfl, .inr ⟨rfl, by decide⟩⟩
theorem disp1 {kx : V} {k : Key} {vx : V} (ek : kx = kV k) (q : ∀ p, H p = none → Q (.ref p) (upd H p (.dK [(k, vx)]))) : tDisp [((tC kx), (tC vx))] σ H Q := by
  subst ek
  unfold tDisp
  intro p hp
  refine ⟨upd_same, [(k, vx)], rfl, by simp, ?_⟩
  have eu : upd (upd H p (.dK [])) p (.dK (mergeK [] [(k, vx)])) = upd H p (.dK [(k, vx)]) := by
    funext a
    by_cases z : a = p
    · subst z; rw [upd_same, upd_same]; rfl
    · rw [upd_ne z, upd_ne z, upd_ne z]
  rw [eu]
  exact q p hp
theorem row5 : BR K (tTup (tCons (tC (.int 1)) (tCons (tDisp [((tC (.int 0)), (tC (.str "x")))]) tNil))) := fun σ H P q => by
  refine tup_ (con_ (cons_ (disp1 (k := .inl 0) rfl fun p hp => nil_ ⟨sz1 (by simp), fun t ht => q _ _ ((Ex.refl.new hp).trans (Ex.refl.new ht)) ?_⟩)))
  have kp : upd (upd H p (.dK [(.inl 0, .str "x")])) t (.tup [.int 1, .ref p]) p = some (.dK [(.inl 0, .str "x")]) := (Ex.refl.new ht) _ _ upd_same
  exact ⟨t, 1, _, _, rfl, upd_same, .dK kp, self_dd kp (ds := [(.inl 0, .str "x")]) (fun H' => .cons (.str _) (by decide +kernel) .nil) (by decide +kernel), .inr ⟨rfl, by decide⟩⟩
theorem s__law_other_kind_right (hX : Hx K) (hc : CdH H v ks c) (oc : OkC ks c) (h : ∀ H', Ex H H' → Q (.bl true) H') : SP K (n+7) "_law_other_kind_right" [v] H Q E := by
  refine o__law_other_kind_right ?_
  unfold r__law_other_kind_right
  refine seq_ fun N1 h1 => for_ (lst_ ((BRs.cons (K := K) row1 (.cons row2 (.cons row3 (.cons row4 (.cons row5 .nil))))) _ _ _ fun rs H1 e1 hl hr => ⟨sz1 (by omega), fun p hp => cit_lst upd_same ?_⟩))
  have x2 : Ex H1 (upd H1 p (.lst rs)) := Ex.refl.new hp
  have kp : upd H1 p (.lst rs) p = some (.lst rs) := upd_same
  generalize upd H1 p (.lst rs) = H2 at *
  refine lp_inv (n := rs.length) (fun j σ H' => (∃ x1 x2, σ = [some v, x1, x2, none]) ∧ Ex H2 H') ?_ ?_ ⟨⟨_, _, rfl⟩, Ex.refl⟩
  · rintro σ H3 ⟨⟨y1, y2, rfl⟩, e3⟩
    exact ⟨itl_stop (e3 _ _ kp) (Nat.le_refl _), h1 _ _ (ret_ (const_ (h _ ((e1.trans x2).trans e3))))⟩
  · rintro j σ H3 hj ⟨⟨y1, y2, rfl⟩, e3⟩ R hR
    refine ⟨itl_go (e3 _ _ kp) hj, ?_⟩
    intro y H4 hy
    obtain ⟨rfl, hy2⟩ := itl_yld (e3 _ _ kp) hy
    obtain ⟨t, d, x, m, rfl, ht, kd, se, hd⟩ := (hr y (List.mem_of_getElem? hy2)).ex (x2.trans e3)
    refine tup2_ (look_of_tup ht) ?_
    simp only [List.set_cons_zero, List.set_cons_succ]
    simp only [tTryW]
    have hc3 := hc.ex ((e1.trans x2).trans e3)
    obtain ⟨f1, f2, f3⟩ := xcX_ok hX.xNoList
    rcases hd with ⟨rfl, hm⟩ | ⟨rfl, hm⟩
    · refine seq_ fun N4 h4 => ife_yes rfl rfl (drop_ (call_ (cva_ rfl (cva_ rfl (nil_ (nil_ ⟨rfl, rfl, s_whole_text_bad (n := n) hc3 oc kd (.inl hm) fun xx H5 e5 hx5 => ?_⟩))))))
      refine ⟨true, f1 (He.ga K "NoList", true) (List.mem_of_getElem? (i := 4) rfl), fun _ a ha => ?_, fun q => nomatch q⟩
      refine ifS_ fun A B hA hB => test_ (founde_H rfl ⟨⟨"NoList", He.ga K "NoList", "found"⟩, by rw [xcs_all]; exact List.mem_of_getElem? (i := 2) rfl, rfl, rfl⟩ hx5 (var_ rfl (se H5 e5 _ ?_)))
      simp only [Bool.false_eq_true, if_false]
      exact hB _ (next_ (hR _ _ ⟨⟨_, _, rfl⟩, e3.trans e5⟩))
    · refine seq_ fun N4 h4 => ife_no rfl (by decide) (drop_ (call_ (cva_ rfl (cva_ rfl (nil_ (nil_ ⟨rfl, rfl, s_first_wrong_bad (n := n) hc3 oc kd (.inl hm) fun xx H5 e5 hx5 => ?_⟩))))))
      refine ⟨true, f1 (He.ga K "NoList", true) (List.mem_of_getElem? (i := 4) rfl), fun _ a ha => ?_, fun q => nomatch q⟩
      refine ifS_ fun A B hA hB => test_ (founde_H rfl ⟨⟨"NoList", He.ga K "NoList", "found"⟩, by rw [xcs_all]; exact List.mem_of_getElem? (i := 2) rfl, rfl, rfl⟩ hx5 (var_ rfl (se H5 e5 _ ?_)))
      simp only [Bool.false_eq_true, if_false]
      exact hB _ (next_ (hR _ _ ⟨⟨_, _, rfl⟩, e3.trans e5⟩))
def cd1 : CD := ⟨1, "a", some [1]⟩
theorem cd1_ok : OkC "key" cd1 := ⟨by decide +kernel, ⟨by decide, by decide⟩, by decide +kernel, by decide, fun x hx => by
  rw [List.mem_singleton] at hx
  subst hx
  decide +kernel⟩
theorem wrong1 {r : List V} : wrongF (some [1]) 0 (.str "x" :: r) = .int 0 := by
  show (if fitF (some [1]) (.int ((0 : Nat) : Int)) (.str "x") = true then _ else _) = _
  rw [show fitF (some [1]) (.int ((0 : Nat) : Int)) (.str "x") = false from by decide +kernel]
  rfl
theorem s__law_many_right (hX : Hx K) (hb : Bx H b N) (hc : CdH H v ks c) (oc : OkC ks c) (h : ∀ H', Ex H H' → Q (.bl true) H') : SP K (n+8) "_law_many_right" [v] H Q E := by
  refine o__law_many_right ?_
  unfold r__law_many_right
  refine seq_ fun N1 h1 => ifS_ fun A B hA hB => test_ (op_ (call_ (cons_ (tup_ (con_ (con_ (con_ (cons_ (tup_ (con_ (nil_ ⟨sz1 (by simp), fun p1 g1 => nil_ ⟨sz1 (by simp), fun p2 g2 => ?_⟩⟩)))))))))))
  have x1 : Ex H (upd H p1 (.tup [.int 1])) := Ex.refl.new g1
  have k1 : upd H p1 (.tup [.int 1]) p1 = some (.tup [.int 1]) := upd_same
  generalize upd H p1 (.tup [.int 1]) = H1 at *
  have x2 : Ex H1 (upd H1 p2 (.tup [.str "key", .int 1, .str "a", .ref p1])) := Ex.refl.new g2
  have k2 : upd H1 p2 (.tup [.str "key", .int 1, .str "a", .ref p1]) p2 = some (.tup [.str "key", .int 1, .str "a", .ref p1]) := upd_same
  generalize upd H1 p2 (.tup [.str "key", .int 1, .str "a", .ref p1]) = H2 at *
  have c2 : CdH H2 (.ref p2) "key" cd1 := ⟨p2, .ref p1, rfl, k2, p1, rfl, x2 _ _ k1⟩
  refine cons_ (op_ (lst_ (con_ (nil_ ⟨sz1 (by simp), fun p3 g3 => const_ (mul_lst upd_same (by decide) (by decide) (by decide) fun p4 g4 => nil_ (nil_ ⟨rfl, rfl, ?_⟩))⟩))))
  rw [flat100] at *
  have x3 : Ex H2 (upd H2 p3 (.lst [.str "x"])) := Ex.refl.new g3
  generalize upd H2 p3 (.lst [.str "x"]) = H3 at *
  have x4 : Ex H3 (upd H3 p4 (.lst ((xx 100).map V.str))) := Ex.refl.new g4
  have k4 : upd H3 p4 (.lst ((xx 100).map V.str)) p4 = some (.lst ((xx 100).map V.str)) := upd_same
  generalize upd H3 p4 (.lst ((xx 100).map V.str)) = H4 at *
  have x14 := x1.trans (x2.trans (x3.trans x4))
  refine s_first_wrong (n := n + 1) (c2.ex (x3.trans x4)) cd1_ok ⟨p4, rfl, .inl k4⟩ (by rw [List.length_map]; decide) (fun y hy => ?_) fun H5 e5 => ?_
  · obtain ⟨s, hs, rfl⟩ := List.mem_map.mp hy
    rw [List.eq_of_mem_replicate hs]
    exact ⟨_, .str _, .inl (sc_w (by decide) (by decide +kernel))⟩
  rw [show (xx 100).map V.str = .str "x" :: (xx 99).map V.str from rfl, show cd1.m = some [1] from rfl, wrong1]
  refine const_ (ne_scal rfl rfl rfl ?_)
  rw [decide_eq_true rfl]
  simp only [Bool.not_true, Bool.false_eq_true, if_false]
  refine hB _ (next_ (h1 _ _ ?_))
  have x5 := x14.trans e5
  clear x1 x2 x3 x4 k1 k2 k4 c2 x14 e5 hA hB
  refine seq_ fun N2 h2 => ifS_ fun A B hA hB => not_ (call_ (cva_ rfl (cons_ (cb_ (cons_ (.inl (clc1_ (con_ (nil_ ⟨⟨by decide, by decide⟩, fun D hD => ?_⟩)))))))))
  refine lc_pr (k := 100) (kv := fun j => (.inl ((j : Int) + (8 : Nat)), .str "x")) (by decide) (fun j H6 R hj e6 q => ?_) (fun D6 H6 ts e6 kD pr => nil_ ?_) (fun v => rfl) rfl hD
  · exact tup_ (cons_ (op_ (var_ rfl (const_ (add1 (con_ (nil_ ⟨sz1 (by simp), fun T hT => q T hT⟩)))))))
  refine dict_pairs kD pr fun p7 g7 => ?_
  refine nil_ (nil_ ⟨rfl, rfl, ?_⟩)
  have b6 := hb.ex (x5.trans e6)
  have ch : ChP _ b (.ref p7) 100 _ := chart_new b6 g7 (M := 100) (kvs := (List.range 100).map fun (j : Nat) => ((.inl ((j : Int) + (8 : Nat)) : Key), V.str "x")) (by simp) fun kv hk => by
    obtain ⟨j, hj, rfl⟩ := List.mem_map.mp hk
    have := List.mem_range.mp hj
    exact ⟨show ((j : Int) + (8 : Nat)).natAbs < 10 ^ 40 from Nat.lt_trans (show _ < 1000 by omega) (by decide), .tx (by unfold TxA; decide +kernel) (by decide)⟩
  have x7 : Ex H6 (upd H6 p7 (.dK (mergeK [] ((List.range 100).map fun (j : Nat) => ((.inl ((j : Int) + (8 : Nat)) : Key), V.str "x"))))) := Ex.refl.new g7
  have x57 := x5.trans (e6.trans x7)
  refine whole_right_ch (n := n) hX (hc.ex x57) oc ch (by decide) fun H8 e8 => ?_
  simp only [oTru, Bool.not_true, Bool.false_eq_true, if_false]
  refine hB _ (next_ (h2 _ _ ?_))
  have x8 := x57.trans e8
  clear x57 x7 ch b6 g7 kD pr hA hB
  refine seq_ fun N3 h3 => ifS_ fun A B hA hB => not_ (call1_ rfl (s__law_other_kind_right (n := n) hX (hc.ex x8) oc fun H9 e9 => ?_))
  simp only [oTru, Bool.not_true, Bool.false_eq_true, if_false]
  refine hB _ (next_ (h3 _ _ ?_))
  have x9 := x8.trans e9
  refine ret_ (and_ (call_ (cva_ rfl (cons_ (op_ (lst_ (con_ (nil_ ⟨sz1 (by simp), fun p3 g3 => const_ (mul_lst upd_same (by decide) (by decide) (by decide) fun p4 g4 => nil_ (nil_ ⟨rfl, rfl, ?_⟩))⟩))))))))
  rw [flat101] at *
  have x3 : Ex H9 (upd H9 p3 (.lst [.str "x"])) := Ex.refl.new g3
  generalize upd H9 p3 (.lst [.str "x"]) = H10 at *
  have x4 : Ex H10 (upd H10 p4 (.lst ((xx 101).map V.str))) := Ex.refl.new g4
  have k4 : upd H10 p4 (.lst ((xx 101).map V.str)) p4 = some (.lst ((xx 101).map V.str)) := upd_same
  generalize upd H10 p4 (.lst ((xx 101).map V.str)) = H11 at *
  have x11 := x9.trans (x3.trans x4)
  refine s__law_too_many_list (n := n) hX (hc.ex x11) oc k4 fun H12 e12 => ?_
  simp only [oTru]
  have x12 := x11.trans e12
  refine call_ (cva_ rfl (cons_ (cb_ (cons_ (.inl (clc1_ (con_ (nil_ ⟨⟨by decide, by decide⟩, fun D hD => ?_⟩))))))))
  refine lc_pr (k := 101) (kv := fun j => (.inl ((j : Int) + (0 : Nat)), .str "x")) (by decide) (fun j H6 R hj e6 q => ?_) (fun D6 H13 ts e13 kD pr => nil_ ?_) (fun v => rfl) rfl hD
  · exact tup_ (cva_ rfl (con_ (nil_ ⟨sz1 (by simp), fun T hT => by have := q T hT; simpa [kV] using this⟩)))
  refine dict_pairs kD pr fun p7 g7 => ?_
  refine nil_ (nil_ ⟨rfl, rfl, ?_⟩)
  have x14 : Ex H13 (upd H13 p7 (.dK (dk 0 101))) := Ex.refl.new g7
  have k14 : upd H13 p7 (.dK (dk 0 101)) p7 = some (.dK (dk 0 101)) := upd_same
  rw [show mergeK [] ((List.range 101).map fun (j : Nat) => ((.inl ((j : Int) + (0 : Nat)) : Key), V.str "x")) = dk 0 101 from dk_merge]
  generalize upd H13 p7 (.dK (dk 0 101)) = H14 at *
  have x15 := x12.trans (e13.trans x14)
  exact s__law_too_many_dict (n := n) hX (hc.ex x15) oc k14 fun H15 e15 => h _ (x15.trans e15)
end
end WR.L

set_option Elab.async false
set_option linter.all false
set_option maxRecDepth 100000
set_option maxHeartbeats 4000000
namespace WR.L
open PySem PySem.Spec PyProof.Rows L2
section
variable {K : PySem.W.Frag} {n : Nat} {H H0 H1 H2 H' : Hp} {Q : VK} {E : XK} {v w : V} {N : Nat} {m : String} {b : Addr}
def Fk (H : Hp) (N : Nat) (x : V) : Prop := okSc x ∨ ∃ p, x = .ref p ∧ ((∃ vs, H p = some (.tup vs) ∧ vs.length ≤ 3 ∧ ∀ z ∈ vs, okSc z) ∨ (∃ vs, H p = some (.lst vs) ∧ vs.length ≤ N ∧ ∀ z ∈ vs, okSc z) ∨ ∃ kvs, H p = some (.dK kvs) ∧ kvs.length ≤ N ∧ ∀ kv ∈ kvs, okKv kv)
theorem Fk.ex (x : Ex H H') (f : Fk H N v) : Fk H' N v := f.imp id fun ⟨p, e, h⟩ => ⟨p, e, h.imp (fun ⟨vs, a, b⟩ => ⟨vs, x _ _ a, b⟩) fun h => h.imp (fun ⟨vs, a, b⟩ => ⟨vs, x _ _ a, b⟩) fun ⟨vs, a, b⟩ => ⟨vs, x _ _ a, b⟩⟩
theorem Fk.od (f : Fk H N v) : Od H N v ∧ ¬ Crd H v := by
  rcases f with h | ⟨p, rfl, ⟨vs, h, hl, ha⟩ | ⟨vs, h, hl, ha⟩ | ⟨vs, h, hl, ha⟩⟩
  · exact ⟨.inl (.sc h), fun ⟨p, _, _, _, _, e, _⟩ => by subst e; exact h⟩
  · exact ⟨.inl (.tup h (by omega) fun z hz => .sc (ha z hz)), crd_no4 h (by omega)⟩
  · exact ⟨.inr (.inl ⟨p, vs, rfl, h, hl, fun z hz => .sc (ha z hz)⟩), crd_no (.lst h) (by decide)⟩
  · exact ⟨.inr (.inr ⟨p, vs, rfl, h, hl, ha⟩), crd_no (.dK h) (by decide)⟩
def Gf (H0 H : Hp) (x : V) : Prop := Fk H 1 x ∧ ∀ p, x = .ref p → H0 p = none
theorem Gf.ex (x : Ex H1 H2) (g : Gf H0 H1 v) : Gf H0 H2 v := ⟨g.1.ex x, g.2⟩
def BF (H0 : Hp) (te : TE) : Prop := ∀ (σ : L2.St) (H : Hp) (P : VK), Ex H0 H → (∀ x H1, Ex H H1 → Gf H0 H1 x → P x H1) → te σ H P
def BG (H0 : Hp) (k : Nat) (ts : TA) : Prop := ∀ (σ : L2.St) (H : Hp) (R : List V → Hp → Prop), Ex H0 H → (∀ xs H1, Ex H H1 → xs.length = k → (∀ x ∈ xs, Gf H0 H1 x) → R xs H1) → ts σ H R
theorem BG.nil : BG H0 0 tNil := fun σ H R _ h => h [] H Ex.refl rfl (fun x hx => nomatch hx)
theorem BG.cons {te : TE} {ts : TA} {k : Nat} (a : BF H0 te) (b : BG H0 k ts) : BG H0 (k+1) (tCons te ts) := fun σ H R e h => a σ H _ e fun x H1 e1 g => b σ H1 _ (e.trans e1) fun xs H2 e2 hl hg => h (x :: xs) H2 (e1.trans e2) (by simp [hl]) (fun z hz => by
  rcases List.mem_cons.mp hz with rfl | hz
  · exact g.ex e2
  · exact hg z hz)
theorem BF.sc {x : V} (h : okSc x) : BF H0 (tC x) := fun σ H P e q => q x H Ex.refl ⟨.inl h, fun p z => by subst z; exact h.elim⟩
theorem BF.pure {te : TE} {x : V} (h : okSc x) (t : ∀ σ H (P : VK), P x H → te σ H P) : BF H0 te := fun σ H P e q => t σ H P (q x H Ex.refl ⟨.inl h, fun p z => by subst z; exact h.elim⟩)
theorem BF.tup {ts : TA} {xs : List V} (t : ∀ σ H (R : List V → Hp → Prop), R xs H → ts σ H R) (hl : xs.length ≤ 3) (ha : ∀ z ∈ xs, okSc z) : BF H0 (tTup ts) := fun σ H P e q => t σ H _ ⟨by rw [sizeLine_eq]; omega, fun p hp => q _ _ (Ex.refl.new hp) ⟨.inr ⟨p, rfl, .inl ⟨xs, upd_same, hl, ha⟩⟩, fun p' z => by cases z; exact Ex.none e hp⟩⟩
theorem BF.lst {ts : TA} {xs : List V} (t : ∀ σ H (R : List V → Hp → Prop), R xs H → ts σ H R) (hl : xs.length ≤ 1) (ha : ∀ z ∈ xs, okSc z) : BF H0 (tLst ts) := fun σ H P e q => t σ H _ ⟨by rw [sizeLine_eq]; omega, fun p hp => q _ _ (Ex.refl.new hp) ⟨.inr ⟨p, rfl, .inr (.inl ⟨xs, upd_same, hl, ha⟩)⟩, fun p' z => by cases z; exact Ex.none e hp⟩⟩
theorem BF.d0 : BF H0 tDNewK := fun σ H P e q p hp => q _ _ (Ex.refl.new hp) ⟨.inr ⟨p, rfl, .inr (.inr ⟨[], upd_same, by simp, fun kv h => nomatch h⟩)⟩, fun p' z => by cases z; exact Ex.none e hp⟩
theorem BF.d1 : BF H0 (tDisp [((tC (.str "a")), (tC (.int 1)))]) := fun σ H P e q => by
  unfold tDisp
  intro p hp
  refine ⟨upd_same, [(.inr "a", .int 1)], rfl, by simp, ?_⟩
  have eu : upd (upd H p (.dK [])) p (.dK (mergeK [] [((.inr "a" : Key), V.int 1)])) = upd H p (.dK (mergeK [] [((.inr "a" : Key), V.int 1)])) := by
    funext a
    by_cases z : a = p
    · subst z; rw [upd_same, upd_same]
    · rw [upd_ne z, upd_ne z, upd_ne z]
  rw [eu]
  refine q _ _ (Ex.refl.new hp) ⟨.inr ⟨p, rfl, .inr (.inr ⟨[(.inr "a", .int 1)], by rw [upd_same]; rfl, by simp, fun kv hkv => ?_⟩)⟩, fun p' z => by cases z; exact Ex.none e hp⟩
  rw [List.mem_singleton] at hkv
  subst hkv
  exact ⟨⟨_, rfl, by decide, by unfold As; decide +kernel⟩, sc1 (by decide)⟩
theorem Fk.fr {M : Nat} (hb : Bx H b N) (f : Fr [b] H H') (ne : ∀ p, v = .ref p → p ≠ b) (g : Fk H M v) : Fk H' M v := g.imp id fun ⟨p, e, h⟩ => ⟨p, e, h.imp (fun ⟨vs, a, q⟩ => ⟨vs, fr_at f (ne p e) a, q⟩) fun h => h.imp (fun ⟨vs, a, q⟩ => ⟨vs, fr_at f (ne p e) a, q⟩) fun ⟨vs, a, q⟩ => ⟨vs, fr_at f (ne p e) a, q⟩⟩
/-- a list of drawn items, one of them taken -/
theorem pickF {ts : TA} {k : Nat} {σ : L2.St} {W : WX} {i : Nat} (bl : BG H k ts) (hk : 1 ≤ k ∧ k ≤ 100) (hb : Bx H b N) (hN : N < 100000) (hi : σ[i]? = some (some (.ref b))) (h : ∀ x H', Fk H' 1 x → (∀ p, x = .ref p → H p = none) → Bx H' b (N + 1) → Fr [b] H H' → Q x H') :
    tOp (oIx K) (tLst ts) (cCall (SP K (n+1) "_law_take") 2 0 (fun vs _ => vs) (tCons (cVar i) (tCons (tC (.int (k : Nat))) tNil)) tNil W) σ H Q := by
  refine op_ (lst_ (bl σ H _ Ex.refl fun xs H1 e1 hl hg => ⟨by rw [sizeLine_eq]; omega, fun p hp => call_ (cva_ hi (con_ (nil_ (nil_ ⟨rfl, rfl, ?_⟩))))⟩))
  have x2 : Ex H (upd H1 p (.lst xs)) := e1.new (Ex.none e1 hp)
  have k2 : (upd H1 p (.lst xs)) p = some (.lst xs) := upd_same
  have g2 : ∀ x ∈ xs, Gf H (upd H1 p (.lst xs)) x := fun x hx => (hg x hx).ex (Ex.refl.new hp)
  generalize upd H1 p (.lst xs) = H2 at x2 k2 g2 ⊢
  have b2 := hb.ex x2
  refine s_take (n := n) b2 hN (by omega) (by omega) fun r H3 r0 r1 b3 f3 => ?_
  obtain ⟨j, rfl⟩ := Int.eq_ofNat_of_zero_le r0
  have hj : j < xs.length := by omega
  have pb : p ≠ b := bx_ne hb (Ex.none e1 hp)
  rw [ix_lst (look_of_lst (fr_at f3 pb k2)) (v := xs[j]) (by rw [atI_nat]; simp [hj])]
  obtain ⟨g, gn⟩ := g2 _ (List.getElem_mem hj)
  exact h _ _ (g.fr b2 f3 fun p e => bx_ne hb (gn p e)) gn b3 ((Fr.ex x2).trans f3)
theorem s__law_thing3 (hb : Bx H b N) (hN : N < 100000) (h : ∀ x H', Fk H' 1 x → (∀ p, x = .ref p → H p = none) → Bx H' b (N + 1) → Fr [b] H H' → Q x H') : SP K (n+2) "_law_thing" [.ref b] H Q E := by
  refine o__law_thing ?_
  unfold r__law_thing
  refine seq_ fun N1 h1 => ?_
  have bl : BG H 17 (tCons (tC .non) (tCons (tC (.bl true)) (tCons (tC (.bl false)) (tCons (tC (.int 0)) (tCons (tC (.int 1)) (tCons (cUn (tC (.int 1))) (tCons (tOp oPow (tC (.int 10)) (tC (.int 29))) (tCons (tC (.str "")) (tCons (tC (.str "A")) (tCons (tC (.str "a b")) (tCons (tTup tNil) (tCons (tTup (tCons (tC (.int 1)) tNil)) (tCons (tLst tNil) (tCons (tLst (tCons (tC (.str "a")) tNil)) (tCons tDNewK (tCons (tDisp [((tC (.str "a")), (tC (.int 1)))]) (tCons (tTup (tCons (tC (.str "a")) (tCons (tC (.int 1)) (tCons (tC (.str "b")) tNil)))) tNil))))))))))))))))) := by
    refine .cons (.sc trivial) (.cons (.sc trivial) (.cons (.sc trivial) (.cons (.sc (sc1 (by decide))) (.cons (.sc (sc1 (by decide))) (.cons (.pure (x := .int (-1)) (sc1 (by decide)) fun σ H P q => q) (.cons (.pure (x := .int (10 ^ 29)) (sc1 (by decide)) fun σ H P q => ?_) (.cons (.sc (sca (by decide) (by decide +kernel))) (.cons (.sc (sca (by decide) (by decide +kernel))) (.cons (.sc (sca (by decide) (by decide +kernel))) (.cons (.tup (xs := []) (fun σ H R q => q) (by decide) (fun z hz => nomatch hz)) (.cons (.tup (xs := [.int 1]) (fun σ H R q => q) (by decide) ?_) (.cons (.lst (xs := []) (fun σ H R q => q) (by decide) (fun z hz => nomatch hz)) (.cons (.lst (xs := [.str "a"]) (fun σ H R q => q) (by decide) ?_) (.cons .d0 (.cons .d1 (.cons (.tup (xs := [.str "a", .int 1, .str "b"]) (fun σ H R q => q) (by decide) ?_) .nil))))))))))))))))
    · simp only [tOp, tC, oPow]
      exact ⟨⟨by omega, by omega, by omega⟩, q⟩
    · intro z hz
      rw [List.mem_singleton] at hz
      subst hz
      exact sc1 (by decide)
    · intro z hz
      rw [List.mem_singleton] at hz
      subst hz
      exact sca (by decide) (by decide +kernel)
    · intro z hz
      simp only [List.mem_cons, List.not_mem_nil, or_false] at hz
      rcases hz with rfl | rfl | rfl
      · exact sca (by decide) (by decide +kernel)
      · exact sc1 (by decide)
      · exact sca (by decide) (by decide +kernel)
  refine asg_ (lst_ (bl _ H _ Ex.refl fun xs H1 e1 hl hg => ⟨by rw [sizeLine_eq]; omega, fun p hp => h1 _ _ ?_⟩))
  refine ret_ (op_ (var_ rfl (call_ (cva_ rfl (con_ (nil_ (nil_ ⟨rfl, rfl, ?_⟩)))))))
  have x2 : Ex H (upd H1 p (.lst xs)) := e1.new (Ex.none e1 hp)
  have k2 : (upd H1 p (.lst xs)) p = some (.lst xs) := upd_same
  have g2 : ∀ x ∈ xs, Gf H (upd H1 p (.lst xs)) x := fun x hx => (hg x hx).ex (Ex.refl.new hp)
  generalize upd H1 p (.lst xs) = H2 at x2 k2 g2 ⊢
  have b2 := hb.ex x2
  refine s_take (n := n) (many := 17) b2 hN (by omega) (by omega) fun r H3 r0 r1 b3 f3 => ?_
  obtain ⟨j, rfl⟩ := Int.eq_ofNat_of_zero_le r0
  have hj : j < xs.length := by omega
  have pb : p ≠ b := bx_ne hb (Ex.none e1 hp)
  rw [ix_lst (look_of_lst (fr_at f3 pb k2)) (v := xs[j]) (by rw [atI_nat]; simp [hj])]
  obtain ⟨g, gn⟩ := g2 _ (List.getElem_mem hj)
  exact h _ _ (g.fr b2 f3 fun p e => bx_ne hb (gn p e)) gn b3 ((Fr.ex x2).trans f3)
end
end WR.L

set_option Elab.async false
set_option linter.all false
set_option maxRecDepth 100000
set_option maxHeartbeats 400000
namespace WR.L
open PySem PySem.Spec PyProof.Rows L2
/-! ## the law's parts -/
def lAts (K : PySem.W.Frag) (S : Str → Sp) (W : WX) : TS :=
  (orL (cFor (cIter K (frzE (tOp (oAdd K) (tLst (tCons (cUn (tC (.int 1))) (tCons (tC (.bl true)) (tCons (tC .non) (tCons (tC (.str "0")) (tCons (tCB (bLenG (gg K S)) (tCons (cVar 6) tNil)) tNil)))))) (tCB (bList K) (tCons (tCB (bRng) (tCons (tCB (bLenG (gg K S)) (tCons (cVar 6) tNil)) tNil)) tNil))))) (gName 8)
  (tSeq (tAsg (tIf (tAnd (cTest (tOp (oIn K false) (cVar 8) (tCB (bRng) (tCons (tCB (bLenG (gg K S)) (tCons (cVar 6) tNil)) tNil)))) (cTest (tOp oIsNot (cVar 8) (tC (.bl true))))) (tOp (oIx K) (cVar 6) (cVar 8)) (tC (.str "12345678"))) (gName 15))
  (tIfS (cTest (tOp (oNeG (gg K S)) (tCB (bRepr K) (tCons (cCall (S "fits") 3 0 (fun vs _ => vs) (tCons (cVar 4) (tCons (cVar 8) (tCons (cVar 15) tNil))) tNil W) tNil)) (tCB (bRepr K) (tCons (cCall (S "_law_fits") 3 0 (fun vs _ => vs) (tCons (tOp (oIx K) (cVar 4) (tC (.int 3))) (tCons (cVar 8) (tCons (cVar 15) tNil))) tNil W) tNil))))
  (tRet (tC (.bl false)))
  tNext))))
def lWrong (K : PySem.W.Frag) (S : Str → Sp) (W : WX) : TS :=
  (tIfS (cTest (tOp (oNeG (gg K S)) (tCB (bRepr K) (tCons (cCall (S "first_wrong") 2 0 (fun vs _ => vs) (tCons (cVar 4) (tCons (tCB (bTuple K) (tCons (cVar 6) tNil)) tNil)) tNil W) tNil)) (tCB (bRepr K) (tCons (cCall (S "_law_wrong") 2 0 (fun vs _ => vs) (tCons (tOp (oIx K) (cVar 4) (tC (.int 3))) (tCons (cVar 6) tNil)) tNil W) tNil))))
  (tRet (tC (.bl false)))
  tNext)
def lTurns (K : PySem.W.Frag) (S : Str → Sp) (W : WX) : TS :=
  (orL (cFor (cRng1 (tCons (tC (.int 2)) tNil)) (gName 11)
  (tSeq (tIfS (cTest (tOp (oNeG (gg K S)) (cVar 9) tDNewK))
  (tDrop (mC (gg K S) "pop" 1 0 [] (cVar 9) (tCons (tOp (oIx K) (tCB (bList K) (tCons (cVar 9) tNil)) (cCall (S "_law_take") 2 0 (fun vs _ => vs) (tCons (cVar 2) (tCons (tCB (bLenG (gg K S)) (tCons (cVar 9) tNil)) tNil)) tNil W)) tNil) tNil W))
  tNext)
  (tIfS (tNot (cTru K (cCall (S "_law_whole_right") 2 0 (fun vs _ => vs) (tCons (cVar 4) (tCons (cVar 9) tNil)) tNil W)))
  (tRet (tC (.bl false)))
  tNext))))
def lCh (K : PySem.W.Frag) (S : Str → Sp) (W : WX) : TS :=
  (tSeq (tAsg (tCB (bDict K) (tCons (cLEn K (cVar 6)) tNil)) (gName 9))
  (tSeq (tAsg (tCB (bDict K) (tCons (cRevS K (cLEn K (cVar 6))) tNil)) (gName 10))
  (tSeq (tIfS (tOr (tNot (cTru K (cCall (S "_law_whole_right") 2 0 (fun vs _ => vs) (tCons (cVar 4) (tCons (cVar 9) tNil)) tNil W))) (tNot (cTru K (cCall (S "_law_whole_right") 2 0 (fun vs _ => vs) (tCons (cVar 4) (tCons (cVar 10) tNil)) tNil W))))
  (tRet (tC (.bl false)))
  tNext)
  (tSeq (orL (cFor (cRng1 (tCons (tC (.int 2)) tNil)) (gName 11)
  (tSeq (tIfS (cTest (tOp (oNeG (gg K S)) (cVar 9) tDNewK))
  (tDrop (mC (gg K S) "pop" 1 0 [] (cVar 9) (tCons (tOp (oIx K) (tCB (bList K) (tCons (cVar 9) tNil)) (cCall (S "_law_take") 2 0 (fun vs _ => vs) (tCons (cVar 2) (tCons (tCB (bLenG (gg K S)) (tCons (cVar 9) tNil)) tNil)) tNil W)) tNil) tNil W))
  tNext)
  (tIfS (tNot (cTru K (cCall (S "_law_whole_right") 2 0 (fun vs _ => vs) (tCons (cVar 4) (tCons (cVar 9) tNil)) tNil W)))
  (tRet (tC (.bl false)))
  tNext))))
  (tSeq (tAsg (tOp (oIx K) (tLst (tCons (tC .non) (tCons (tC (.str "x")) (tCons (tC (.int 8)) tNil)))) (cCall (S "_law_take") 2 0 (fun vs _ => vs) (tCons (cVar 2) (tCons (tC (.int 3)) tNil)) tNil W)) (gSub (cVar 9) (tC (.str "strange")) oSet))
  (tSeq (tAsg (tC (.str "12345678")) (gSub (cVar 9) (tOp (oAdd K) (tC (.int 8)) (cCall (S "_law_take") 2 0 (fun vs _ => vs) (tCons (cVar 2) (tCons (tC (.int 3)) tNil)) tNil W)) oSet))
  (tIfS (tNot (cTru K (cCall (S "_law_whole_right") 2 0 (fun vs _ => vs) (tCons (cVar 4) (tCons (cVar 9) tNil)) tNil W)))
  (tRet (tC (.bl false)))
  tNext)))))))
def lBody (K : PySem.W.Frag) (S : Str → Sp) (W : WX) : TS :=
  (tSeq (orL (cFor (cIter K (frzE (tOp (oAdd K) (tLst (tCons (cUn (tC (.int 1))) (tCons (tC (.bl true)) (tCons (tC .non) (tCons (tC (.str "0")) (tCons (tCB (bLenG (gg K S)) (tCons (cVar 6) tNil)) tNil)))))) (tCB (bList K) (tCons (tCB (bRng) (tCons (tCB (bLenG (gg K S)) (tCons (cVar 6) tNil)) tNil)) tNil))))) (gName 8)
  (tSeq (tAsg (tIf (tAnd (cTest (tOp (oIn K false) (cVar 8) (tCB (bRng) (tCons (tCB (bLenG (gg K S)) (tCons (cVar 6) tNil)) tNil)))) (cTest (tOp oIsNot (cVar 8) (tC (.bl true))))) (tOp (oIx K) (cVar 6) (cVar 8)) (tC (.str "12345678"))) (gName 15))
  (tIfS (cTest (tOp (oNeG (gg K S)) (tCB (bRepr K) (tCons (cCall (S "fits") 3 0 (fun vs _ => vs) (tCons (cVar 4) (tCons (cVar 8) (tCons (cVar 15) tNil))) tNil W) tNil)) (tCB (bRepr K) (tCons (cCall (S "_law_fits") 3 0 (fun vs _ => vs) (tCons (tOp (oIx K) (cVar 4) (tC (.int 3))) (tCons (cVar 8) (tCons (cVar 15) tNil))) tNil W) tNil))))
  (tRet (tC (.bl false)))
  tNext))))
  (tSeq (tIfS (cTest (tOp (oNeG (gg K S)) (tCB (bRepr K) (tCons (cCall (S "first_wrong") 2 0 (fun vs _ => vs) (tCons (cVar 4) (tCons (tCB (bTuple K) (tCons (cVar 6) tNil)) tNil)) tNil W) tNil)) (tCB (bRepr K) (tCons (cCall (S "_law_wrong") 2 0 (fun vs _ => vs) (tCons (tOp (oIx K) (cVar 4) (tC (.int 3))) (tCons (cVar 6) tNil)) tNil W) tNil))))
  (tRet (tC (.bl false)))
  tNext)
  (tSeq (tAsg (tCB (bDict K) (tCons (cLEn K (cVar 6)) tNil)) (gName 9))
  (tSeq (tAsg (tCB (bDict K) (tCons (cRevS K (cLEn K (cVar 6))) tNil)) (gName 10))
  (tSeq (tIfS (tOr (tNot (cTru K (cCall (S "_law_whole_right") 2 0 (fun vs _ => vs) (tCons (cVar 4) (tCons (cVar 9) tNil)) tNil W))) (tNot (cTru K (cCall (S "_law_whole_right") 2 0 (fun vs _ => vs) (tCons (cVar 4) (tCons (cVar 10) tNil)) tNil W))))
  (tRet (tC (.bl false)))
  tNext)
  (tSeq (orL (cFor (cRng1 (tCons (tC (.int 2)) tNil)) (gName 11)
  (tSeq (tIfS (cTest (tOp (oNeG (gg K S)) (cVar 9) tDNewK))
  (tDrop (mC (gg K S) "pop" 1 0 [] (cVar 9) (tCons (tOp (oIx K) (tCB (bList K) (tCons (cVar 9) tNil)) (cCall (S "_law_take") 2 0 (fun vs _ => vs) (tCons (cVar 2) (tCons (tCB (bLenG (gg K S)) (tCons (cVar 9) tNil)) tNil)) tNil W)) tNil) tNil W))
  tNext)
  (tIfS (tNot (cTru K (cCall (S "_law_whole_right") 2 0 (fun vs _ => vs) (tCons (cVar 4) (tCons (cVar 9) tNil)) tNil W)))
  (tRet (tC (.bl false)))
  tNext))))
  (tSeq (tAsg (tOp (oIx K) (tLst (tCons (tC .non) (tCons (tC (.str "x")) (tCons (tC (.int 8)) tNil)))) (cCall (S "_law_take") 2 0 (fun vs _ => vs) (tCons (cVar 2) (tCons (tC (.int 3)) tNil)) tNil W)) (gSub (cVar 9) (tC (.str "strange")) oSet))
  (tSeq (tAsg (tC (.str "12345678")) (gSub (cVar 9) (tOp (oAdd K) (tC (.int 8)) (cCall (S "_law_take") 2 0 (fun vs _ => vs) (tCons (cVar 2) (tCons (tC (.int 3)) tNil)) tNil W)) oSet))
  (tIfS (tNot (cTru K (cCall (S "_law_whole_right") 2 0 (fun vs _ => vs) (tCons (cVar 4) (tCons (cVar 9) tNil)) tNil W)))
  (tRet (tC (.bl false)))
  tNext)))))))))
def lLoop (K : PySem.W.Frag) (S : Str → Sp) (W : WX) : TS :=
  (orL (cFor (cIter K (frzE (tLst (tCons (cVar 5) (tCons (cCall (S "_law_bent") 2 0 (fun vs _ => vs) (tCons (cVar 2) (tCons (cVar 5) tNil)) tNil W) (tCons (cCall (S "_law_bent") 2 0 (fun vs _ => vs) (tCons (cVar 2) (tCons (cCall (S "_law_bent") 2 0 (fun vs _ => vs) (tCons (cVar 2) (tCons (cVar 5) tNil)) tNil W) tNil)) tNil W) (tCons (cVar 5) tNil))))))) (gName 6)
  (tSeq (orL (cFor (cIter K (frzE (tOp (oAdd K) (tLst (tCons (cUn (tC (.int 1))) (tCons (tC (.bl true)) (tCons (tC .non) (tCons (tC (.str "0")) (tCons (tCB (bLenG (gg K S)) (tCons (cVar 6) tNil)) tNil)))))) (tCB (bList K) (tCons (tCB (bRng) (tCons (tCB (bLenG (gg K S)) (tCons (cVar 6) tNil)) tNil)) tNil))))) (gName 8)
  (tSeq (tAsg (tIf (tAnd (cTest (tOp (oIn K false) (cVar 8) (tCB (bRng) (tCons (tCB (bLenG (gg K S)) (tCons (cVar 6) tNil)) tNil)))) (cTest (tOp oIsNot (cVar 8) (tC (.bl true))))) (tOp (oIx K) (cVar 6) (cVar 8)) (tC (.str "12345678"))) (gName 15))
  (tIfS (cTest (tOp (oNeG (gg K S)) (tCB (bRepr K) (tCons (cCall (S "fits") 3 0 (fun vs _ => vs) (tCons (cVar 4) (tCons (cVar 8) (tCons (cVar 15) tNil))) tNil W) tNil)) (tCB (bRepr K) (tCons (cCall (S "_law_fits") 3 0 (fun vs _ => vs) (tCons (tOp (oIx K) (cVar 4) (tC (.int 3))) (tCons (cVar 8) (tCons (cVar 15) tNil))) tNil W) tNil))))
  (tRet (tC (.bl false)))
  tNext))))
  (tSeq (tIfS (cTest (tOp (oNeG (gg K S)) (tCB (bRepr K) (tCons (cCall (S "first_wrong") 2 0 (fun vs _ => vs) (tCons (cVar 4) (tCons (tCB (bTuple K) (tCons (cVar 6) tNil)) tNil)) tNil W) tNil)) (tCB (bRepr K) (tCons (cCall (S "_law_wrong") 2 0 (fun vs _ => vs) (tCons (tOp (oIx K) (cVar 4) (tC (.int 3))) (tCons (cVar 6) tNil)) tNil W) tNil))))
  (tRet (tC (.bl false)))
  tNext)
  (tSeq (tAsg (tCB (bDict K) (tCons (cLEn K (cVar 6)) tNil)) (gName 9))
  (tSeq (tAsg (tCB (bDict K) (tCons (cRevS K (cLEn K (cVar 6))) tNil)) (gName 10))
  (tSeq (tIfS (tOr (tNot (cTru K (cCall (S "_law_whole_right") 2 0 (fun vs _ => vs) (tCons (cVar 4) (tCons (cVar 9) tNil)) tNil W))) (tNot (cTru K (cCall (S "_law_whole_right") 2 0 (fun vs _ => vs) (tCons (cVar 4) (tCons (cVar 10) tNil)) tNil W))))
  (tRet (tC (.bl false)))
  tNext)
  (tSeq (orL (cFor (cRng1 (tCons (tC (.int 2)) tNil)) (gName 11)
  (tSeq (tIfS (cTest (tOp (oNeG (gg K S)) (cVar 9) tDNewK))
  (tDrop (mC (gg K S) "pop" 1 0 [] (cVar 9) (tCons (tOp (oIx K) (tCB (bList K) (tCons (cVar 9) tNil)) (cCall (S "_law_take") 2 0 (fun vs _ => vs) (tCons (cVar 2) (tCons (tCB (bLenG (gg K S)) (tCons (cVar 9) tNil)) tNil)) tNil W)) tNil) tNil W))
  tNext)
  (tIfS (tNot (cTru K (cCall (S "_law_whole_right") 2 0 (fun vs _ => vs) (tCons (cVar 4) (tCons (cVar 9) tNil)) tNil W)))
  (tRet (tC (.bl false)))
  tNext))))
  (tSeq (tAsg (tOp (oIx K) (tLst (tCons (tC .non) (tCons (tC (.str "x")) (tCons (tC (.int 8)) tNil)))) (cCall (S "_law_take") 2 0 (fun vs _ => vs) (tCons (cVar 2) (tCons (tC (.int 3)) tNil)) tNil W)) (gSub (cVar 9) (tC (.str "strange")) oSet))
  (tSeq (tAsg (tC (.str "12345678")) (gSub (cVar 9) (tOp (oAdd K) (tC (.int 8)) (cCall (S "_law_take") 2 0 (fun vs _ => vs) (tCons (cVar 2) (tCons (tC (.int 3)) tNil)) tNil W)) oSet))
  (tIfS (tNot (cTru K (cCall (S "_law_whole_right") 2 0 (fun vs _ => vs) (tCons (cVar 4) (tCons (cVar 9) tNil)) tNil W)))
  (tRet (tC (.bl false)))
  tNext)))))))))))
def lRef (K : PySem.W.Frag) (S : Str → Sp) (W : WX) : TS :=
  (orL (cFor (cIter K (frzE (tLst (tCons (tTup (tCons (cVar 7) (tCons (tC .non) (tCons (tC (.str "card")) tNil)))) (tCons (tTup (tCons (cVar 4) (tCons (tC (.int 7)) (tCons (tC (.str "list")) tNil)))) (tCons (tTup (tCons (cVar 4) (tCons (tC .non) (tCons (tC (.str "list")) tNil)))) (tCons (tTup (tCons (cVar 4) (tCons (tC (.str "key")) (tCons (tC (.str "list")) tNil)))) tNil))))))) (cTupG K 3 (gCons (gName 12) (gCons (gName 13) (gCons (gName 14) gNil))))
  (tIfS (tNot (cTru K (cCall (S "_law_refused") 3 0 (fun vs _ => vs) (tCons (cVar 12) (tCons (cVar 13) (tCons (cVar 14) tNil))) tNil W)))
  (tRet (tC (.bl false)))
  tNext)))
section
variable {K : PySem.W.Frag} {n k : Nat} {H H' H0 H1 : Hp} {Q : VK} {E : XK} {v w x pv : V} {N M M2 : Nat} {σ : L2.St} {D : Ends} {W : WX} {xs ys : List V} {S : Str → Sp} {b : Addr} {ks : Str} {c : CD} {m : String} {kvs : List (Key × V)} {a0 a1 a2 a3 a4 a5 a6 a7 a8 a9 a10 a11 a12 a13 a14 a15 : Option V}
theorem rng_new {j : Nat} (q : ∀ p, H p = none → Q (.ref p) (upd H p (.rng 0 (j : Nat)))) : bRng [.int (j : Nat)] H Q := by
  simp only [bRng]
  exact q
theorem lst_rng {p : Addr} {j : Nat} (hj : j ≤ 1000) (h : H p = some (.rng 0 (j : Nat))) (q : ∀ l, H l = none → Q (.ref l) (upd H l (.lst (rgV 0 (j : Nat))))) : bList K [.ref p] H Q := by
  have e : look K H p = some (.rng 0 (j : Nat)) := look_of h fun _ _ z => nomatch z
  simp only [bList, e]
  exact ⟨RgOk.of_le (by omega) (by omega) (by omega) (by omega), q⟩
theorem add_lst {p q : Addr} (hp : H p = some (.lst xs)) (hq : H q = some (.lst ys)) (hl : xs.length + ys.length ≤ 1000) (z : ∀ l, H l = none → Q (.ref l) (upd H l (.lst (xs ++ ys)))) : oAdd K (.ref p) (.ref q) H Q := by
  simp only [oAdd, hp, hq]
  exact ⟨Nat.le_of_lt (small1000 hl), z⟩
def AtV (y : V) : Prop := y = .bl true ∨ y = .non ∨ y = .str "0" ∨ ∃ i : Int, y = .int i
theorem AtV.kd (h : AtV x) : ∃ m, Kd H x m := by
  rcases h with rfl | rfl | rfl | ⟨i, rfl⟩
  · exact ⟨_, .bl _⟩
  · exact ⟨_, .non⟩
  · exact ⟨_, .str _⟩
  · exact ⟨_, .int _⟩
theorem in_rng {p : Addr} {j : Nat} {r : Bool} (h : H p = some (.rng 0 (j : Nat))) (e : inRg x 0 (j : Nat) = some r) (q : Q (.bl r) H) : oIn K false x (.ref p) H Q := by
  have el : look K H p = some (.rng 0 (j : Nat)) := look_of h fun _ _ z => nomatch z
  unfold oIn
  simp only [el, e, Bool.false_xor]
  exact q
/-- the piece at a place, or another one -/
theorem at_piece {p : Addr} (hp : H p = some (.lst xs)) (hl : xs.length ≤ 900) (hi : ∀ x ∈ xs, Itm H x) (ha : AtV x) (q : ∀ z H', Ex H H' → Itm H' z → Q z H') :
    tIf (tAnd (cTest (tOp (oIn K false) (cVar 8) (tCB (bRng) (tCons (tCB (bLenG (gg K S)) (tCons (cVar 6) tNil)) tNil)))) (cTest (tOp oIsNot (cVar 8) (tC (.bl true))))) (tOp (oIx K) (cVar 6) (cVar 8)) (tC (.str "12345678")) [a0, a1, a2, a3, a4, a5, some (.ref p), a7, some x, a9, a10, a11, a12, a13, a14, a15] H Q := by
  refine tif_ (and2_ (test_ (op_ (var_ rfl (cb_ (cons_ (cb_ (cva_ rfl (nil_ (lenL hp (nil_ (rng_new fun r hr => ?_))))))))))))
  have x1 : Ex H (upd H r (.rng 0 (xs.length : Nat))) := Ex.refl.new hr
  have kr : upd H r (.rng 0 (xs.length : Nat)) r = some (.rng 0 (xs.length : Nat)) := upd_same
  generalize upd H r (.rng 0 (xs.length : Nat)) = H1 at *
  have oth : Q (.str "12345678") H1 := q _ _ x1 (.tx (by unfold TxA; decide +kernel) (by decide))
  rcases ha with rfl | rfl | rfl | ⟨i, rfl⟩
  · refine in_rng kr rfl ?_
    generalize decide ((0 : Int) ≤ (if true = true then (1 : Int) else 0) ∧ (if true = true then (1 : Int) else 0) < ((xs.length : Nat) : Int)) = r
    cases r with
    | false =>
      simp only [Bool.false_eq_true, if_false]
      exact const_ oth
    | true =>
      simp only [if_true]
      refine test_ (op_ (var_ rfl (const_ ?_)))
      simp only [oIsNot, decide_true, Bool.not_true, Bool.false_eq_true, if_false]
      exact const_ oth
  · refine in_rng kr rfl ?_
    simp only [Bool.false_eq_true, if_false]
    exact const_ oth
  · refine in_rng kr rfl ?_
    simp only [Bool.false_eq_true, if_false]
    exact const_ oth
  · refine in_rng kr rfl ?_
    by_cases e : 0 ≤ i ∧ i < ((xs.length : Nat) : Int)
    · rw [decide_eq_true e]
      simp only [if_true]
      refine test_ (op_ (var_ rfl (const_ ?_)))
      simp only [oIsNot, if_true]
      obtain ⟨j, rfl⟩ := Int.eq_ofNat_of_zero_le e.1
      have hj : j < xs.length := by omega
      exact op_ (var_ rfl (var_ rfl (idx_lst (x1 _ _ hp) hj (q _ _ x1 ((hi _ (List.getElem_mem hj)).ex x1)))))
    · rw [decide_eq_false e]
      simp only [Bool.false_eq_true, if_false]
      exact const_ oth
theorem lAts_ok (hc : CdH H v ks c) (oc : OkC ks c) (pl : PcL H b pv M xs) (hM : M ≤ 100) (h : ∀ H' a8 a15, Ex H H' → D.nx [a0, a1, a2, a3, some v, a5, some pv, a7, a8, a9, a10, a11, a12, a13, a14, a15] H') :
    lAts K (SP K (n+8)) W D [a0, a1, a2, a3, some v, a5, some pv, a7, a8, a9, a10, a11, a12, a13, a14, a15] H := by
  unfold lAts
  obtain ⟨p, rfl, pb, hp, hl, hi⟩ := pl
  refine for_ (op_ (lst_ (cons_ (un_ (const_ (con_ (con_ (con_ (cons_ (cb_ (cva_ rfl (nil_ (lenL hp (nil_ ⟨sz1 (by simp), fun p1 g1 => ?_⟩))))))))))))))
  have x1 : Ex H (upd H p1 (.lst [.int (-1), .bl true, .non, .str "0", .int (xs.length : Nat)])) := Ex.refl.new g1
  have k1 : upd H p1 (.lst [.int (-1), .bl true, .non, .str "0", .int (xs.length : Nat)]) p1 = some (.lst [.int (-1), .bl true, .non, .str "0", .int (xs.length : Nat)]) := upd_same
  generalize upd H p1 (.lst [.int (-1), .bl true, .non, .str "0", .int (xs.length : Nat)]) = H1 at *
  refine cb_ (cons_ (cb_ (cons_ (cb_ (cva_ rfl (nil_ (lenL (x1 _ _ hp) (nil_ (rng_new fun p2 g2 => nil_ ?_)))))))))
  have x2 : Ex H1 (upd H1 p2 (.rng 0 (xs.length : Nat))) := Ex.refl.new g2
  refine lst_rng (by omega) upd_same fun p3 g3 => ?_
  generalize upd H1 p2 (.rng 0 (xs.length : Nat)) = H2 at *
  have x3 : Ex H2 (upd H2 p3 (.lst (rgV 0 (xs.length : Nat)))) := Ex.refl.new g3
  refine add_lst ((x2.trans x3) _ _ k1) upd_same (by rw [rgV_length]; simp only [List.length_cons, List.length_nil]; omega) fun p4 g4 => cit_lst upd_same ?_
  generalize upd H2 p3 (.lst (rgV 0 (xs.length : Nat))) = H3 at *
  have hat : ∀ y ∈ [V.int (-1), .bl true, .non, .str "0", .int (xs.length : Nat)] ++ rgV 0 (xs.length : Nat), AtV y := fun y hy => by
    rcases List.mem_append.mp hy with hy | hy
    · simp only [List.mem_cons, List.not_mem_nil, or_false] at hy
      rcases hy with rfl | rfl | rfl | rfl | rfl
      · exact .inr (.inr (.inr ⟨_, rfl⟩))
      · exact .inl rfl
      · exact .inr (.inl rfl)
      · exact .inr (.inr (.inl rfl))
      · exact .inr (.inr (.inr ⟨_, rfl⟩))
    · obtain ⟨i, _, rfl⟩ := List.mem_map.mp hy
      exact .inr (.inr (.inr ⟨_, rfl⟩))
  generalize [V.int (-1), .bl true, .non, .str "0", .int (xs.length : Nat)] ++ rgV 0 (xs.length : Nat) = ats at *
  have x4 : Ex H3 (upd H3 p4 (.lst ats)) := Ex.refl.new g4
  have k4 : upd H3 p4 (.lst ats) p4 = some (.lst ats) := upd_same
  generalize upd H3 p4 (.lst ats) = H4 at *
  have x04 := x1.trans (x2.trans (x3.trans x4))
  refine lp_inv (n := ats.length) (fun j σ H' => (∃ a8 a15, σ = [a0, a1, a2, a3, some v, a5, some (.ref p), a7, a8, a9, a10, a11, a12, a13, a14, a15]) ∧ Ex H4 H') ?_ ?_ ⟨⟨_, _, rfl⟩, Ex.refl⟩
  · rintro σ H5 ⟨⟨y8, y15, rfl⟩, e5⟩
    exact ⟨itl_stop (e5 _ _ k4) (Nat.le_refl _), h _ _ _ (x04.trans e5)⟩
  · rintro j σ H5 hj ⟨⟨y8, y15, rfl⟩, e5⟩ R hR
    refine ⟨itl_go (e5 _ _ k4) hj, ?_⟩
    intro y H6 hy
    obtain ⟨rfl, hy2⟩ := itl_yld (e5 _ _ k4) hy
    have ay := hat y (List.mem_of_getElem? hy2)
    have x05 := x04.trans e5
    simp only [gName, List.set_cons_zero, List.set_cons_succ]
    refine seq_ fun N1 h1 => asg_ (at_piece (x05 _ _ hp) (by omega) (fun x hx => (hi x hx).ex x05) ay fun z H7 e7 hz => h1 _ _ ?_)
    simp only [List.set_cons_zero, List.set_cons_succ]
    obtain ⟨m1, ky⟩ := ay.kd (H := H7)
    obtain ⟨m2, kz, oz⟩ := hz.cm
    have hc7 := hc.ex (x05.trans e7)
    refine ifS_ fun A B hA hB => test_ (op_ (cb_ (cons_ (call_ (cva_ rfl (cva_ rfl (cva_ rfl (nil_ (nil_ ⟨rfl, rfl, ?_⟩)))))))))
    refine s_fits (n := n + 3) hc7 oc ky kz oz fun H8 e8 => nil_ (repr_bl _ ?_)
    obtain ⟨q0, mv, rfl, hq0, hmv⟩ := hc7.ex e8
    refine cb_ (cons_ (call_ (cons_ (op_ (var_ rfl (const_ (idx3 hq0 (cva_ rfl (cva_ rfl (nil_ (nil_ ⟨rfl, rfl, ?_⟩)))))))))))
    refine s__law_fits (n := n + 5) hmv (ky.ex e8) (kz.ex e8) oz fun H9 e9 => nil_ (repr_bl _ (ne_scal rfl rfl rfl ?_))
    rw [decide_eq_true rfl]
    simp only [Bool.not_true, Bool.false_eq_true, if_false]
    exact hB _ (next_ (hR _ _ ⟨⟨_, _, rfl⟩, e5.trans (e7.trans (e8.trans e9))⟩))
theorem sc_rp (h : okSc x) : ∃ t : Str, ∀ (H : Hp) (Q : VK), Q (.str t) H → bRepr K [x] H Q := by
  obtain ⟨d, dx, sh⟩ := sc_dx (K := K) (H := fun _ => none) h
  refine ⟨d.shown, fun H Q q => repr_d (H := H) (d := d) (L := 1100) (k := 0) ?_ sh (by decide) (by decide) q⟩
  cases dx with
  | non => exact .non
  | bl b => exact .bl b
  | int i => exact .int i
  | str s => exact .str s
  | lst e => exact h.elim
  | tup e => exact h.elim
  | dic e => exact h.elim
theorem wrong_sc {mo : Option (List Int)} : ∀ {xs : List V} {k : Nat}, (match mo with | some ms => ms.length < 500 | none => True) → xs.length + k < 1000 → okSc (wrongF mo k xs)
  | [], k, hm, hk => by
    cases mo with
    | none => exact trivial
    | some ms =>
      show okSc (if k < ms.length then .int (k : Nat) else .non)
      split
      · exact sc_nat (by simpa using hk)
      · exact trivial
  | x :: xs, k, hm, hk => by
    rw [List.length_cons] at hk
    show okSc (if fitF mo (.int (k : Nat)) x = true then wrongF mo (k + 1) xs else .int (k : Nat))
    split
    · exact wrong_sc hm (by omega)
    · exact sc_nat (by omega)
theorem lWrong_ok (hc : CdH H v ks c) (oc : OkC ks c) (pl : PcL H b pv M xs) (hM : M ≤ 100) (h : ∀ H', Ex H H' → D.nx [a0, a1, a2, a3, some v, a5, some pv, a7, a8, a9, a10, a11, a12, a13, a14, a15] H') :
    lWrong K (SP K (n+8)) W D [a0, a1, a2, a3, some v, a5, some pv, a7, a8, a9, a10, a11, a12, a13, a14, a15] H := by
  unfold lWrong
  obtain ⟨p, rfl, pb, hp, hl, hi⟩ := pl
  refine ifS_ fun A B hA hB => test_ (op_ (cb_ (cons_ (call_ (cva_ rfl (cons_ (cb_ (cva_ rfl (nil_ ?_)))))))))
  simp only [bTuple, look_of_lst (K := K) hp]
  intro l hl1
  have x1 : Ex H (upd H l (.tup xs)) := Ex.refl.new hl1
  have k1 : upd H l (.tup xs) l = some (.tup xs) := upd_same
  generalize upd H l (.tup xs) = H1 at *
  refine nil_ (nil_ ⟨rfl, rfl, ?_⟩)
  have sc : okSc (wrongF c.m 0 xs) := wrong_sc (by
    obtain ⟨i, b, mo⟩ := c
    cases mo with
    | none => exact trivial
    | some ms => have : ms.length ≤ 8 := oc.2.2.2.1; show ms.length < 500; omega) (by omega)
  obtain ⟨t, ht⟩ := sc_rp (K := K) sc
  refine s_first_wrong (n := n + 2) (hc.ex x1) oc ⟨l, rfl, .inr k1⟩ (by omega) (fun y hy => ((hi y hy).ex x1).cm) fun H2 e2 => nil_ (ht _ _ ?_)
  obtain ⟨q0, mv, rfl, hq0, hmv⟩ := hc.ex (x1.trans e2)
  refine cb_ (cons_ (call_ (cons_ (op_ (var_ rfl (const_ (idx3 hq0 (cva_ rfl (nil_ (nil_ ⟨rfl, rfl, ?_⟩))))))))))
  refine s__law_wrong (n := n + 4) hmv ⟨p, rfl, .inl ((x1.trans e2) _ _ hp)⟩ (fun y hy => ((hi y hy).ex (x1.trans e2)).cm) fun H3 e3 => nil_ (ht _ _ (ne_scal rfl rfl rfl ?_))
  rw [decide_eq_true rfl]
  simp only [Bool.not_true, Bool.false_eq_true, if_false]
  exact hB _ (next_ (h _ (x1.trans (e2.trans e3))))
end
end WR.L

set_option Elab.async false
set_option linter.all false
set_option maxRecDepth 100000
set_option maxHeartbeats 400000
namespace WR.L
open PySem PySem.Spec PyProof.Rows L2
section
variable {K : PySem.W.Frag} {n k : Nat} {H H' H0 H1 : Hp} {Q : VK} {E : XK} {v w x pv : V} {N M M2 : Nat} {σ : L2.St} {D : Ends} {W : WX} {xs ys : List V} {S : Str → Sp} {b : Addr} {ks : Str} {c : CD} {m : String} {kvs : List (Key × V)} {a0 a1 a2 a3 a4 a5 a6 a7 a8 a9 a10 a11 a12 a13 a14 a15 : Option V}
def enk : Nat → List V → List (Key × V)
  | _, [] => []
  | k, x :: r => (.inl (k : Int), x) :: enk (k + 1) r
theorem enk_len : ∀ {k : Nat} {xs : List V}, (enk k xs).length = xs.length
  | _, [] => rfl
  | k, x :: r => by simp only [enk, List.length_cons, enk_len]
theorem enk_mem : ∀ {k : Nat} {xs : List V}, ∀ kv ∈ enk k xs, (∃ j : Nat, kv.1 = .inl (j : Int) ∧ j < k + xs.length) ∧ kv.2 ∈ xs
  | _, [], kv, h => nomatch h
  | k, x :: r, kv, h => by
    rcases List.mem_cons.mp h with rfl | h
    · exact ⟨⟨k, rfl, by simp⟩, List.mem_cons_self⟩
    · obtain ⟨⟨j, e, l⟩, i⟩ := enk_mem kv h
      exact ⟨⟨j, e, by rw [List.length_cons]; omega⟩, List.mem_cons_of_mem _ i⟩
theorem en_pr : ∀ {k : Nat} {xs : List V} {ts : List Addr}, (∀ j t, ts[j]? = some t → ∃ x, xs[j]? = some x ∧ H t = some (.tup [.int ((k + j : Nat) : Int), x])) → ts.length = xs.length → PrT H ts (enk k xs)
  | k, [], [], _, _ => .nil
  | k, [], t :: r, _, l => nomatch l
  | k, x :: xs, [], _, l => nomatch l
  | k, x :: xs, t :: ts, h, l => by
    refine .cons ?_ (en_pr (fun j t e => ?_) (by simpa using l))
    · obtain ⟨y, e1, e2⟩ := h 0 t rfl
      cases Option.some.inj e1
      exact e2
    · obtain ⟨y, e1, e2⟩ := h (j + 1) t (by simpa using e)
      refine ⟨y, by simpa using e1, ?_⟩
      rw [e2]
      rw [show k + (j + 1) = k + 1 + j from by omega]
theorem pr_rev {ts : List Addr} (h : PrT H ts kvs) : PrT H ts.reverse kvs.reverse := by
  unfold PrT at h ⊢
  induction h with
  | nil => exact .nil
  | cons a _ ih =>
    rw [List.reverse_cons, List.reverse_cons]
    exact ih.snoc a
theorem enk_ok {k : Nat} (hk : k + xs.length < 1000) (hi : ∀ x ∈ xs, Itm H x) : ∀ kv ∈ enk k xs, okK kv.1 ∧ Itm H kv.2 := fun kv h => by
  obtain ⟨⟨j, e, l⟩, i⟩ := enk_mem kv h
  refine ⟨?_, hi _ i⟩
  rw [e]
  exact sc_nat (by omega)
theorem itm_shaped (h : Itm H x) : ∃ d, Dp K H x d ∧ SeqAt.shaped d = true := by
  obtain ⟨d, a, b, c⟩ := itm_dp (K := K) h
  refine ⟨d, a, ?_⟩
  unfold SeqAt.shaped
  rw [b, Bool.true_and]
  exact decide_eq_true (by omega)
theorem ch_dpkv : ∀ {kvs : List (Key × V)}, (∀ kv ∈ kvs, Itm H kv.2) → ∃ ds, DpKv K H kvs ds
  | [], _ => ⟨[], .nil⟩
  | (k, v) :: kvs, h => by
    obtain ⟨d, a, b⟩ := itm_shaped (K := K) (h (k, v) List.mem_cons_self)
    obtain ⟨ds, r⟩ := ch_dpkv (kvs := kvs) fun kv hk => h kv (List.mem_cons_of_mem _ hk)
    exact ⟨_, .cons a b r⟩
theorem ne_empty {p q : Addr} (hp : H p = some (.dK kvs)) (hi : ∀ kv ∈ kvs, Itm H kv.2) (hq : H q = some (.dK [])) (z : Q (.bl (!kvs.isEmpty)) H) : oNeG (gg K S) (.ref p) (.ref q) H Q := by
  unfold oNeG
  rw [ins_dK (look_of_dK (K := K) hp)]
  obtain ⟨ds, r⟩ := ch_dpkv (K := K) hi
  refine .inr ⟨p, q, kvs, [], ds, [], rfl, rfl, hp, hq, r, .nil, ?_⟩
  cases kvs with
  | nil => cases r; exact z
  | cons a r' => exact z
theorem val_of {kv : Key × V} (h : kv ∈ kvs) : ∃ x, valV kvs kv.1 = some x := by
  have := valV_any kv.1 kvs
  have h2 : (kvs.any fun q => decide (q.1 = kv.1)) = true := List.any_eq_true.mpr ⟨kv, h, decide_eq_true rfl⟩
  rw [h2] at this
  exact Option.isSome_iff_exists.mp this.symm
theorem set_dI {p : Addr} {i : Int} {R : Hp → Prop} (h : H p = some (.dK kvs)) (hl : kvs.length < 1000) (q : R (upd H p (.dK (putK kvs (.inl i) v)))) : oSet (.ref p) (.int i) v H R := by
  simp only [oSet, h, keyOf]
  exact ⟨Nat.lt_trans hl (small1000 (Nat.le_refl _)), q⟩
theorem ChP.upd_ {p : Addr} {ls : List (Key × V)} (ch : ChP H b (.ref p) M kvs) (hl : ls.length ≤ M2) (hi : ∀ kv ∈ ls, okK kv.1 ∧ Itm H kv.2) : ChP (upd H p (.dK ls)) b (.ref p) M2 ls := by
  obtain ⟨p', e, pb, hp, _, _⟩ := ch
  cases e
  refine ⟨p, rfl, pb, upd_same, hl, fun kv hk => ⟨(hi kv hk).1, ?_⟩⟩
  refine (hi kv hk).2.imp id fun h => h.imp id fun h => h.imp id fun ⟨q, a, c⟩ => ⟨q, a, ?_⟩
  rw [upd_ne (fun z => by rw [z, hp] at c; cases c)]
  exact c
theorem itm_put {k : Key} {y : V} (hi : ∀ kv ∈ kvs, okK kv.1 ∧ Itm H kv.2) (hk : okK k) (hy : Itm H y) : ∀ kv ∈ putK kvs k y, okK kv.1 ∧ Itm H kv.2 := fun kv h => by
  rcases put_mem kv h with h | h
  · exact hi kv h
  · rw [h]; exact ⟨hk, hy⟩
theorem Bx.put {p : Addr} {o : HO} (hb : Bx H b N) (ne : p ≠ b) : Bx (upd H p o) b N := bx_put hb ne
theorem lTurns_ok {ch : Addr} (hX : Hx K) (hb : Bx H b N) (hN : N ≤ 90000) (hc : CdH H v ks c) (oc : OkC ks c) (hch : ChP H b (.ref ch) M kvs) (hM : M ≤ 100) (f0 : Fr [b] H0 H) (hn : H0 ch = none) (h : ∀ H' N' kvs' a11, Fr [b] H0 H' → Bx H' b N' → N' ≤ N + 2 → CdH H' v ks c → ChP H' b (.ref ch) M kvs' → D.nx [a0, a1, some (.ref b), a3, some v, a5, a6, a7, a8, some (.ref ch), a10, a11, a12, a13, a14, a15] H') :
    lTurns K (SP K (n+8)) W D [a0, a1, some (.ref b), a3, some v, a5, a6, a7, a8, some (.ref ch), a10, a11, a12, a13, a14, a15] H := by
  unfold lTurns
  refine rng1_ (con_ (nil_ ⟨⟨by decide, by decide⟩, ?_⟩))
  refine lp_inv (n := 2) (fun j σ H' => (∃ a11, σ = [a0, a1, some (.ref b), a3, some v, a5, a6, a7, a8, some (.ref ch), a10, a11, a12, a13, a14, a15]) ∧ Fr [b] H0 H' ∧ (∃ N', Bx H' b N' ∧ N' ≤ N + j) ∧ CdH H' v ks c ∧ ∃ kvs', ChP H' b (.ref ch) M kvs') ?_ ?_ ⟨⟨_, rfl⟩, f0, ⟨N, hb, by omega⟩, hc, kvs, hch⟩
  · rintro σ H5 ⟨⟨y, rfl⟩, f5, ⟨N', b5, l5⟩, c5, kvs', ch5⟩
    exact ⟨Nat.le_refl _, h _ _ _ _ f5 b5 l5 c5 ch5⟩
  · rintro j σ H5 hj ⟨⟨y, rfl⟩, f5, ⟨N', b5, l5⟩, c5, kvs', ch5⟩ R hR
    refine ⟨hj, ?_⟩
    intro y2 H6 hy
    obtain ⟨rfl, rfl⟩ := itr_yld hy
    simp only [gName, List.set_cons_zero, List.set_cons_succ]
    have ch5' := ch5
    obtain ⟨p', e, pb, hp, hl, hi⟩ := ch5
    cases e
    refine seq_ fun N1 h1 => ifS_ fun A B hA hB => test_ (op_ (var_ rfl fun q hq => ?_))
    have x1 : Ex H6 (upd H6 q (.dK [])) := Ex.refl.new hq
    refine ne_empty (x1 _ _ hp) (fun kv hk => ((hi kv hk).2).ex x1) upd_same ?_
    generalize upd H6 q (.dK []) = H7 at *
    have tail : ∀ H8 kvs8, Fr [b] H0 H8 → (∃ N', Bx H8 b N' ∧ N' ≤ N + (j + 1)) → CdH H8 v ks c → ChP H8 b (.ref ch) M kvs8 → N1 [a0, a1, some (.ref b), a3, some v, a5, a6, a7, a8, some (.ref ch), a10, some (.int (0 + (j : Nat))), a12, a13, a14, a15] H8 := fun H8 kvs8 f8 b8 c8 ch8 => h1 _ _ (by
      refine ifS_ fun A B hA hB => not_ (call_ (cva_ rfl (cva_ rfl (nil_ (nil_ ⟨rfl, rfl, whole_right_ch (n := n + 1) hX c8 oc ch8 hM fun H9 e9 => ?_⟩)))))
      simp only [oTru, Bool.not_true, Bool.false_eq_true, if_false]
      obtain ⟨N8, b8, l8⟩ := b8
      exact hB _ (next_ (hR _ _ ⟨⟨_, rfl⟩, f8.trans (Fr.ex e9), ⟨N8, b8.ex e9, l8⟩, c8.ex e9, _, ch8.ex e9⟩)))
    cases he : kvs'.isEmpty with
    | true =>
      simp only [Bool.not_true, Bool.false_eq_true, if_false]
      exact hB _ (next_ (tail _ _ (f5.trans (Fr.ex x1)) ⟨N', b5.ex x1, by omega⟩ (c5.ex x1) (ch5'.ex x1)))
    | false =>
      simp only [Bool.not_false, if_true]
      have hlen : 1 ≤ kvs'.length := by
        cases kvs' with
        | nil => cases he
        | cons a r => simp
      have hp7 := x1 _ _ hp
      refine hA _ (drop_ (mC_blt (var_ rfl ⟨ins_dK (look_of_dK (K := K) hp7), "dict", tyB_dK hp7, _, b_pop, cons_ (op_ (cb_ (cva_ rfl (nil_ ?_))))⟩) fun P P' hh q => mono_var hh q))
      simp only [bList, look_of_dK (K := K) hp7]
      intro l hl1
      have x2 : Ex H7 (upd H7 l (.lst (kvs'.map fun kv => kV kv.1))) := Ex.refl.new hl1
      have k2 : upd H7 l (.lst (kvs'.map fun kv => kV kv.1)) l = some (.lst (kvs'.map fun kv => kV kv.1)) := upd_same
      have lb := bx_ne (b5.ex x1) hl1
      generalize upd H7 l (.lst (kvs'.map fun kv => kV kv.1)) = H8 at *
      have b8 := b5.ex (x1.trans x2)
      refine call_ (cva_ rfl (cons_ (cb_ (cva_ rfl (nil_ (lenD (x2 _ _ hp7) (nil_ (nil_ ⟨rfl, rfl, s_take (n := n + 7) b8 (by omega) (by omega) (by omega) fun r H9 r0 r1 b9 f9 => ?_⟩))))))))
      refine ixl (fr_at f9 lb k2) r0 (by rw [List.length_map]; omega) fun z hz => nil_ ?_
      obtain ⟨kv, hkv, rfl⟩ := List.mem_map.mp hz
      obtain ⟨y, hy⟩ := val_of hkv
      have ch9 := (ch5'.ex (x1.trans x2)).fr b8 f9
      have hp9 := fr_at f9 pb (x2 _ _ hp7)
      have kk : keyOf (kV kv.1) = some kv.1 := by cases kv.1 <;> rfl
      simp only [mPopD, hp9, kk, hy]
      have c9 := (c5.ex (x1.trans x2)).tp (bx_tp b8 f9)
      have ch9i : ∀ kv ∈ kvs', okK kv.1 ∧ Itm H9 kv.2 := by
        obtain ⟨_, _, _, _, _, i⟩ := ch9
        exact i
      refine tail _ (dropK kvs' kv.1) (fr_put ((f5.trans (Fr.ex (x1.trans x2))).trans f9) hn) ⟨_, bx_put b9 pb, by omega⟩ (c9.tp (tp_put fun us z => by rw [hp9] at z; cases z)) (ch9.upd_ ?_ fun kv hk => ?_)
      · have := List.length_filter_le (fun q : Key × V => decide (q.1 ≠ kv.1)) kvs'
        unfold dropK
        omega
      · exact ch9i kv (List.mem_filter.mp hk).1
end
end WR.L

set_option Elab.async false
set_option linter.all false
set_option maxRecDepth 100000
set_option maxHeartbeats 400000
namespace WR.L
open PySem PySem.Spec PyProof.Rows L2
section
variable {K : PySem.W.Frag} {n k : Nat} {H H' H0 H1 : Hp} {Q : VK} {E : XK} {v w x pv : V} {N M M2 : Nat} {σ : L2.St} {D : Ends} {W : WX} {xs ys : List V} {S : Str → Sp} {b : Addr} {ks : Str} {c : CD} {m : String} {kvs : List (Key × V)} {a0 a1 a2 a3 a4 a5 a6 a7 a8 a9 a10 a11 a12 a13 a14 a15 : Option V}
theorem rev1_ {te : TE} (h : ∀ N : V → Hp → Prop, (∀ p xs H1, H1 p = some (.lst xs) → (∀ q, H1 q = none → Q (.ref q) (upd H1 q (.lst xs.reverse))) → N (.ref p) H1) → te σ H N) : cRevS K te σ H Q := rev_ h
theorem len_ {i : Nat} {p : Addr} (hi : σ[i]? = some (some (.ref p))) (hp : H p = some (.lst xs)) (hl : xs.length ≤ 900) (q : ∀ S H' ts, Ex H H' → H' S = some (.lst (ts.map V.ref)) → PrT H' ts (enk 0 xs) → Q (.ref S) H') : cLEn K (cVar i) σ H Q := by
  unfold cLEn
  refine var_ hi ⟨p, xs, rfl, .inl (.inl hp), by omega, fun S H' ts hS e kS l en => q S H' ts e kS (en_pr (fun j t ht => ?_) l)⟩
  rw [Nat.zero_add]
  exact en j t ht
theorem strange_ok : okK (.inr "strange") := ⟨by decide, by unfold As; decide +kernel⟩
theorem lCh_ok (hX : Hx K) (hb : Bx H b N) (hN : N ≤ 80000) (hc : CdH H v ks c) (oc : OkC ks c) (pl : PcL H b pv M xs) (hM : M ≤ 90) (h : ∀ H' N' y9 y10 y11, Fr [b] H H' → Bx H' b N' → N' ≤ N + 4 → D.nx [a0, a1, some (.ref b), a3, some v, a5, some pv, a7, a8, y9, y10, y11, a12, a13, a14, a15] H') :
    lCh K (SP K (n+8)) W D [a0, a1, some (.ref b), a3, some v, a5, some pv, a7, a8, a9, a10, a11, a12, a13, a14, a15] H := by
  unfold lCh
  obtain ⟨p, rfl, pb, hp, hl, hi⟩ := pl
  refine seq_ fun N1 h1 => asg_ (cb_ (cons_ (len_ rfl hp (by omega) fun S1 H1 ts1 e1 k1 pr1 => nil_ (dict_pairs k1 pr1 fun l1 g1 => h1 _ _ ?_))))
  simp only [List.set_cons_zero, List.set_cons_succ]
  have ch1 : ChP _ b (.ref l1) M (mergeK [] (enk 0 xs)) := chart_new (hb.ex e1) g1 (by rw [enk_len]; exact hl) (enk_ok (by omega) fun x hx => (hi x hx).ex e1)
  have x1 : Ex H1 (upd H1 l1 (.dK (mergeK [] (enk 0 xs)))) := Ex.refl.new g1
  have n1 : H l1 = none := Ex.none e1 g1
  generalize upd H1 l1 (.dK (mergeK [] (enk 0 xs))) = H2 at *
  have x02 := e1.trans x1
  refine seq_ fun N2 h2 => asg_ (cb_ (cons_ (rev_ fun N0 hN0 => len_ rfl (x02 _ _ hp) (by omega) fun S3 H3 ts3 e3 k3 pr3 => hN0 _ _ _ k3 fun q3 gq3 => nil_ ?_)))
  have x3 : Ex H3 (upd H3 q3 (.lst (ts3.map V.ref).reverse)) := Ex.refl.new gq3
  have k4 : upd H3 q3 (.lst (ts3.map V.ref).reverse) q3 = some (.lst (ts3.reverse.map V.ref)) := by rw [upd_same, List.map_reverse]
  generalize upd H3 q3 (.lst (ts3.map V.ref).reverse) = H4 at *
  refine dict_pairs k4 (pr_rev (pr3.ex x3)) fun l4 g4 => h2 _ _ ?_
  simp only [List.set_cons_zero, List.set_cons_succ]
  have x04 := x02.trans (e3.trans x3)
  have ch4 : ChP _ b (.ref l4) M (mergeK [] (enk 0 xs).reverse) := chart_new (hb.ex x04) g4 (by rw [List.length_reverse, enk_len]; exact hl) fun kv hk => enk_ok (k := 0) (by omega) (fun x hx => (hi x hx).ex x04) kv (List.mem_reverse.mp hk)
  have x4 : Ex H4 (upd H4 l4 (.dK (mergeK [] (enk 0 xs).reverse))) := Ex.refl.new g4
  generalize upd H4 l4 (.dK (mergeK [] (enk 0 xs).reverse)) = H5 at *
  have x05 := x04.trans x4
  refine seq_ fun N3 h3 => ifS_ fun A B hA hB => or_ (not_ (call_ (cva_ rfl (cva_ rfl (nil_ (nil_ ⟨rfl, rfl, whole_right_ch (n := n + 1) hX (hc.ex x05) oc (ch1.ex (e3.trans (x3.trans x4))) (by omega) fun H6 e6 => ?_⟩))))))
  simp only [oTru, Bool.not_true, Bool.false_eq_true, if_false]
  refine not_ (call_ (cva_ rfl (cva_ rfl (nil_ (nil_ ⟨rfl, rfl, whole_right_ch (n := n + 1) hX (hc.ex (x05.trans e6)) oc (ch4.ex e6) (by omega) fun H7 e7 => ?_⟩)))))
  simp only [oTru, Bool.not_true, Bool.false_eq_true, if_false]
  refine hB _ (next_ (h3 _ _ ?_))
  have x07 := x05.trans (e6.trans e7)
  refine seq_ fun N4 h4 => lTurns_ok (H0 := H) hX (hb.ex x07) (by omega) (hc.ex x07) oc (ch1.ex (e3.trans (x3.trans (x4.trans (e6.trans e7))))) (by omega) (Fr.ex x07) n1 fun H8 N8 kvs8 y11 f8 b8 l8 c8 ch8 => h4 _ _ ?_
  clear h1 h2 h3 h4 hA hB x07 x05 x04 x02 e6 e7 e3 x3 x4 pr1 pr3 k1 k3 k4 g4 ch1 ch4 x1 e1 hN0
  refine seq_ fun N5 h5 => asgG_ (op_ (lst_ (con_ (con_ (con_ (nil_ ⟨sz1 (by simp), fun p9 g9 => ?_⟩))))))
  have x9 : Ex H8 (upd H8 p9 (.lst [.non, .str "x", .int 8])) := Ex.refl.new g9
  have k9 : upd H8 p9 (.lst [.non, .str "x", .int 8]) p9 = some (.lst [.non, .str "x", .int 8]) := upd_same
  have n9 := bx_ne b8 g9
  generalize upd H8 p9 (.lst [.non, .str "x", .int 8]) = H9 at *
  have b9 := b8.ex x9
  refine call_ (cva_ rfl (con_ (nil_ (nil_ ⟨rfl, rfl, s_take (n := n + 7) b9 (by omega) (by decide) (by decide) fun r H10 r0 r1 b10 f10 => ?_⟩))))
  refine ixl (fr_at f10 n9 k9) r0 (by simpa using r1) fun z hz => ?_
  have iz : Itm H10 z := by
    simp only [List.mem_cons, List.not_mem_nil, or_false] at hz
    rcases hz with rfl | rfl | rfl
    · exact .inl rfl
    · exact .tx (by unfold TxA; decide +kernel) (by decide)
    · exact .inr (.inl ⟨8, rfl, by decide, by decide⟩)
  have ch10 := (ch8.ex x9).fr b9 f10
  have c10 := (c8.ex x9).tp (bx_tp b9 f10)
  have f010 := (f8.trans (Fr.ex x9)).trans f10
  have ch10' := ch10
  obtain ⟨p', e, lb, h10, hl10, hi10⟩ := ch10
  cases e
  refine gsub_ (var_ rfl (const_ (set_dS h10 (by omega) (h5 _ _ ?_))))
  have ch11 := ch10'.upd_ (M2 := M + 1) (ls := putK kvs8 (.inr "strange") z) (by have := length_putK kvs8 (.inr "strange") z; omega) (itm_put hi10 strange_ok iz)
  have c11 := c10.tp (tp_put (o := .dK (putK kvs8 (.inr "strange") z)) fun us z => by rw [h10] at z; cases z)
  have f011 := fr_put (o := .dK (putK kvs8 (.inr "strange") z)) f010 n1
  have b11 := bx_put (o := .dK (putK kvs8 (.inr "strange") z)) b10 lb
  generalize upd H10 l1 (.dK (putK kvs8 (.inr "strange") z)) = H11 at *
  generalize putK kvs8 (.inr "strange") z = kvs11 at *
  refine seq_ fun N6 h6 => asgG_ (const_ (gsub_ (var_ rfl (op_ (const_ (call_ (cva_ rfl (con_ (nil_ (nil_ ⟨rfl, rfl, s_take (n := n + 7) b11 (by omega) (by decide) (by decide) fun r2 H12 r20 r21 b12 f12 => add1 ?_⟩))))))))))
  have ch12 := ch11.fr b11 f12
  have c12 := c11.tp (bx_tp b11 f12)
  have f012 := f011.trans f12
  have ch12' := ch12
  obtain ⟨p', e, lb2, h12, hl12, hi12⟩ := ch12
  cases e
  refine set_dI h12 (by omega) (h6 _ _ ?_)
  have ch13 := ch12'.upd_ (M2 := M + 2) (ls := putK kvs11 (.inl (8 + r2)) (.str "12345678")) (by have := length_putK kvs11 (.inl (8 + r2)) (.str "12345678"); omega) (itm_put hi12 (show (8 + r2).natAbs < 10 ^ 40 from Nat.lt_trans (show _ < 1000 by omega) (by decide)) (.tx (by unfold TxA; decide +kernel) (by decide)))
  have c13 := c12.tp (tp_put (o := .dK (putK kvs11 (.inl (8 + r2)) (.str "12345678"))) fun us z => by rw [h12] at z; cases z)
  have f013 := fr_put (o := .dK (putK kvs11 (.inl (8 + r2)) (.str "12345678"))) f012 n1
  have b13 := bx_put (o := .dK (putK kvs11 (.inl (8 + r2)) (.str "12345678"))) b12 lb2
  generalize upd H12 l1 (.dK (putK kvs11 (.inl (8 + r2)) (.str "12345678"))) = H13 at *
  refine ifS_ fun A B hA hB => not_ (call_ (cva_ rfl (cva_ rfl (nil_ (nil_ ⟨rfl, rfl, whole_right_ch (n := n + 1) hX c13 oc ch13 (by omega) fun H14 e14 => ?_⟩)))))
  simp only [oTru, Bool.not_true, Bool.false_eq_true, if_false]
  exact hB _ (next_ (h _ _ _ _ _ (f013.trans (Fr.ex e14)) (b13.ex e14) (by omega)))
theorem lBody_ok (hX : Hx K) (hb : Bx H b N) (hN : N ≤ 80000) (hc : CdH H v ks c) (oc : OkC ks c) (pl : PcL H b pv M xs) (hM : M ≤ 90) (h : ∀ H' N' y8 y9 y10 y11 y15, Fr [b] H H' → Bx H' b N' → N' ≤ N + 4 → D.nx [a0, a1, some (.ref b), a3, some v, a5, some pv, a7, y8, y9, y10, y11, a12, a13, a14, y15] H') :
    lBody K (SP K (n+8)) W D [a0, a1, some (.ref b), a3, some v, a5, some pv, a7, a8, a9, a10, a11, a12, a13, a14, a15] H := by
  show tSeq (lAts K (SP K (n+8)) W) (tSeq (lWrong K (SP K (n+8)) W) (lCh K (SP K (n+8)) W)) D _ H
  refine seq_ fun N1 h1 => lAts_ok hc oc pl (by omega) fun H1 y8 y15 e1 => h1 _ _ ?_
  refine seq_ fun N2 h2 => lWrong_ok (hc.ex e1) oc (pl.ex e1) (by omega) fun H2 e2 => h2 _ _ ?_
  have x := e1.trans e2
  exact lCh_ok hX (hb.ex x) hN (hc.ex x) oc (pl.ex x) hM fun H3 N3 y9 y10 y11 f3 b3 l3 => h _ _ _ _ _ _ _ ((Fr.ex x).trans f3) b3 l3
end
end WR.L

set_option Elab.async false
set_option linter.all false
set_option maxRecDepth 100000
set_option maxHeartbeats 400000
namespace WR.L
open PySem PySem.Spec PyProof.Rows L2
section
variable {K : PySem.W.Frag} {n k : Nat} {H H' H0 H1 : Hp} {Q : VK} {E : XK} {v w x pv gv od : V} {N M M2 : Nat} {σ : L2.St} {D : Ends} {W : WX} {xs ys : List V} {S : Str → Sp} {b : Addr} {ks : Str} {c : CD} {m : String} {kvs : List (Key × V)} {a0 a1 a2 a3 a4 a5 a6 a7 a8 a9 a10 a11 a12 a13 a14 a15 : Option V}
theorem lLoop_ok (hX : Hx K) (hb : Bx H b N) (hN : N ≤ 70000) (hc : CdH H v ks c) (oc : OkC ks c) (pl : PcL H b gv 8 xs) (h : ∀ H' N' y6 y8 y9 y10 y11 y15, Fr [b] H H' → Bx H' b N' → N' ≤ N + 28 → D.nx [a0, a1, some (.ref b), a3, some v, some gv, y6, a7, y8, y9, y10, y11, a12, a13, a14, y15] H') :
    lLoop K (SP K (n+8)) W D [a0, a1, some (.ref b), a3, some v, some gv, a6, a7, a8, a9, a10, a11, a12, a13, a14, a15] H := by
  unfold lLoop
  refine for_ (lst_ (cva_ rfl (cons_ (call_ (cva_ rfl (cva_ rfl (nil_ (nil_ ⟨rfl, rfl, s__law_bent (n := n + 5) hb (by omega) pl (by decide) fun w1 z1 H1 N1 p1 l1 b1 f1 => ?_⟩))))))))
  refine cons_ (call_ (cva_ rfl (cons_ (call_ (cva_ rfl (cva_ rfl (nil_ (nil_ ⟨rfl, rfl, s__law_bent (n := n + 5) b1 (by omega) (pl.fr hb f1) (by decide) fun w2 z2 H2 N2 p2 l2 b2 f2 => ?_⟩))))))))
  refine nil_ (nil_ ⟨rfl, rfl, s__law_bent (n := n + 5) b2 (by omega) p2 (by decide) fun w3 z3 H3 N3 p3 l3 b3 f3 => ?_⟩)
  refine cva_ rfl (nil_ ⟨sz1 (by simp), fun L hL => cit_lst upd_same ?_⟩)
  have f03 := (f1.trans f2).trans f3
  have q1 := (p1.fr b1 f2).fr b2 f3
  have q0 := pl.fr hb f03
  have x4 : Ex H3 (upd H3 L (.lst [gv, w1, w3, gv])) := Ex.refl.new hL
  have k4 : upd H3 L (.lst [gv, w1, w3, gv]) L = some (.lst [gv, w1, w3, gv]) := upd_same
  have Lb := bx_ne b3 hL
  generalize upd H3 L (.lst [gv, w1, w3, gv]) = H4 at *
  have b4 := b3.ex x4
  have f04 := f03.trans (Fr.ex x4)
  have c4 := hc.tp (bx_tp hb f04)
  have its : ∀ y ∈ [gv, w1, w3, gv], ∃ zs, PcL H4 b y 76 zs := fun y hy => by
    simp only [List.mem_cons, List.not_mem_nil, or_false] at hy
    rcases hy with rfl | rfl | rfl | rfl
    · exact ⟨_, (q0.ex x4).up (by decide)⟩
    · exact ⟨_, (q1.ex x4).up (by decide)⟩
    · exact ⟨_, (p3.ex x4).up (by decide)⟩
    · exact ⟨_, (q0.ex x4).up (by decide)⟩
  refine lp_inv (n := 4) (fun j σ H' => (∃ y6 y8 y9 y10 y11 y15, σ = [a0, a1, some (.ref b), a3, some v, some gv, y6, a7, y8, y9, y10, y11, a12, a13, a14, y15]) ∧ Fr [b] H4 H' ∧ ∃ N', Bx H' b N' ∧ N' ≤ N + 12 + 4 * j) ?_ ?_ ⟨⟨_, _, _, _, _, _, rfl⟩, Fr.refl, _, b4, by omega⟩
  · rintro σ H5 ⟨⟨y6, y8, y9, y10, y11, y15, rfl⟩, f5, N', b5, l5⟩
    exact ⟨itl_stop (fr_at f5 Lb k4) (by simp), h _ _ _ _ _ _ _ _ (f04.trans f5) b5 (by omega)⟩
  · rintro j σ H5 hj ⟨⟨y6, y8, y9, y10, y11, y15, rfl⟩, f5, N', b5, l5⟩ R hR
    refine ⟨itl_go (fr_at f5 Lb k4) (by simpa using hj), ?_⟩
    intro y H6 hy
    obtain ⟨rfl, hy2⟩ := itl_yld (fr_at f5 Lb k4) hy
    obtain ⟨zs, pz⟩ := its y (List.mem_of_getElem? hy2)
    simp only [gName, List.set_cons_zero, List.set_cons_succ]
    exact lBody_ok (n := n) hX b5 (by omega) (c4.tp (bx_tp b4 f5)) oc (pz.fr b4 f5) (by decide) fun H7 N7 z8 z9 z10 z11 z15 f7 b7 l7 => hR _ _ ⟨⟨_, _, _, _, _, _, rfl⟩, f5.trans f7, N7, b7, by omega⟩
theorem tup3_ {t : Addr} {i j k : Nat} {x y z : V} {R : L2.St → Hp → Prop} (h : look K H t = some (.tup [x, y, z])) (q : R (((σ.set i (some x)).set j (some y)).set k (some z)) H) : cTupG K 3 (gCons (gName i) (gCons (gName j) (gCons (gName k) gNil))) (.ref t) σ H R := by
  simp only [cTupG, h, gCons, gName, gNil]
  exact ⟨rfl, _, _, rfl, _, _, rfl, _, _, rfl, rfl, q⟩
theorem lRef_ok (hX : Hx K) (hc : CdH H v ks c) (oc : OkC ks c) (ho : Od H 4 od) (nc : ¬ Crd H od) (h : ∀ H' y12 y13 y14, Gw od H H' → D.nx [a0, a1, a2, a3, some v, a5, a6, some od, a8, a9, a10, a11, y12, y13, y14, a15] H') :
    lRef K (SP K (n+8)) W D [a0, a1, a2, a3, some v, a5, a6, some od, a8, a9, a10, a11, a12, a13, a14, a15] H := by
  unfold lRef
  refine for_ (lst_ (cons_ (tup_ (cva_ rfl (con_ (con_ (nil_ ⟨sz1 (by simp), fun t1 g1 => ?_⟩)))))))
  refine cons_ (tup_ (cva_ rfl (con_ (con_ (nil_ ⟨sz1 (by simp), fun t2 g2 => ?_⟩)))))
  refine cons_ (tup_ (cva_ rfl (con_ (con_ (nil_ ⟨sz1 (by simp), fun t3 g3 => ?_⟩)))))
  refine cons_ (tup_ (cva_ rfl (con_ (con_ (nil_ ⟨sz1 (by simp), fun t4 g4 => nil_ ⟨sz1 (by simp), fun L g5 => cit_lst upd_same ?_⟩⟩)))))
  have x1 : Ex H (upd H t1 (.tup [od, .non, .str "card"])) := Ex.refl.new g1
  have k1 : upd H t1 (.tup [od, .non, .str "card"]) t1 = some (.tup [od, .non, .str "card"]) := upd_same
  generalize upd H t1 (.tup [od, .non, .str "card"]) = H1 at *
  have x2 : Ex H1 (upd H1 t2 (.tup [v, .int 7, .str "list"])) := Ex.refl.new g2
  have k2 : upd H1 t2 (.tup [v, .int 7, .str "list"]) t2 = some (.tup [v, .int 7, .str "list"]) := upd_same
  generalize upd H1 t2 (.tup [v, .int 7, .str "list"]) = H2 at *
  have x3 : Ex H2 (upd H2 t3 (.tup [v, .non, .str "list"])) := Ex.refl.new g3
  have k3 : upd H2 t3 (.tup [v, .non, .str "list"]) t3 = some (.tup [v, .non, .str "list"]) := upd_same
  generalize upd H2 t3 (.tup [v, .non, .str "list"]) = H3 at *
  have x4 : Ex H3 (upd H3 t4 (.tup [v, .str "key", .str "list"])) := Ex.refl.new g4
  have k4 : upd H3 t4 (.tup [v, .str "key", .str "list"]) t4 = some (.tup [v, .str "key", .str "list"]) := upd_same
  generalize upd H3 t4 (.tup [v, .str "key", .str "list"]) = H4 at *
  have x5 : Ex H4 (upd H4 L (.lst [.ref t1, .ref t2, .ref t3, .ref t4])) := Ex.refl.new g5
  have k5 : upd H4 L (.lst [.ref t1, .ref t2, .ref t3, .ref t4]) L = some (.lst [.ref t1, .ref t2, .ref t3, .ref t4]) := upd_same
  have x04 := x1.trans (x2.trans (x3.trans x4))
  have oL : od ≠ .ref L := (ho.ex x04).ne g5
  generalize upd H4 L (.lst [.ref t1, .ref t2, .ref t3, .ref t4]) = H5 at *
  have x05 := x04.trans x5
  have y1 := (x2.trans (x3.trans (x4.trans x5))) _ _ k1
  have y2 := (x3.trans (x4.trans x5)) _ _ k2
  have y3 := (x4.trans x5) _ _ k3
  have y4 := x5 _ _ k4
  have nc5 : ¬ Crd H5 od := fun z => nc (crd_back x05 ho.th z)
  refine lp_inv (n := 4) (fun j σ H' => (∃ y12 y13 y14, σ = [a0, a1, a2, a3, some v, a5, a6, some od, a8, a9, a10, a11, y12, y13, y14, a15]) ∧ Gw od H5 H' ∧ (j = 0 → H' = H5)) ?_ ?_ ⟨⟨_, _, _, rfl⟩, Gw.refl, fun _ => rfl⟩
  · rintro σ H6 ⟨⟨y12, y13, y14, rfl⟩, g6, _⟩
    exact ⟨itl_stop (g6.1 _ _ oL k5) (by simp), h _ _ _ _ ((Gw.ex x05).trans g6)⟩
  · rintro j σ H6 hj ⟨⟨y12, y13, y14, rfl⟩, g6, i6⟩ R hR
    have k6 := g6.1 _ _ oL k5
    refine ⟨itl_go k6 (by simpa using hj), ?_⟩
    intro y H7 hy
    obtain ⟨rfl, hy2⟩ := itl_yld k6 hy
    have c6 := (hc.ex x05).tp g6.2
    have lst : ∀ (t : Addr) (u : V), okSc u → H5 t = some (.tup [v, u, .str "list"]) → 1 ≤ j → cTupG K 3 (gCons (gName 12) (gCons (gName 13) (gCons (gName 14) gNil))) (.ref t) [a0, a1, a2, a3, some v, a5, a6, some od, a8, a9, a10, a11, y12, y13, y14, a15] H7 fun σ2 H2 => (tIfS (tNot (cTru K (cCall (SP K (n+8) "_law_refused") 3 0 (fun vs _ => vs) (tCons (cVar 12) (tCons (cVar 13) (tCons (cVar 14) tNil))) tNil W))) (tRet (tC (.bl false))) tNext) { D with nx := R, ct := R, bk := D.nx } σ2 H2 := fun t u su ht j1 => by
      refine tup3_ (look_of_tup (g6.2 _ _ ht)) ?_
      simp only [List.set_cons_zero, List.set_cons_succ]
      refine ifS_ fun A B hA hB => not_ (call_ (cva_ rfl (cva_ rfl (cva_ rfl (nil_ (nil_ ⟨rfl, rfl, s__law_refused_list (n := n + 1) hX c6 oc su fun H8 e8 => ?_⟩))))))
      simp only [oTru, Bool.not_true, Bool.false_eq_true, if_false]
      exact hB _ (next_ (hR _ _ ⟨⟨_, _, _, rfl⟩, g6.trans (.ex e8), fun z => by omega⟩))
    rcases (by omega : j = 0 ∨ j = 1 ∨ j = 2 ∨ j = 3) with rfl | rfl | rfl | rfl
    · cases (Option.some.inj hy2)
      obtain rfl := i6 rfl
      refine tup3_ (look_of_tup y1) ?_
      simp only [List.set_cons_zero, List.set_cons_succ]
      refine ifS_ fun A B hA hB => not_ (call_ (cva_ rfl (cva_ rfl (cva_ rfl (nil_ (nil_ ⟨rfl, rfl, s__law_refused_card (n := n + 1) hX (ho.ex x05) (by decide) nc5 fun H8 g8 => ?_⟩))))))
      simp only [oTru, Bool.not_true, Bool.false_eq_true, if_false]
      exact hB _ (next_ (hR _ _ ⟨⟨_, _, _, rfl⟩, g8, fun z => by omega⟩))
    · cases (Option.some.inj hy2)
      exact lst _ _ sc7 y2 (by decide)
    · cases (Option.some.inj hy2)
      exact lst _ .non trivial y3 (by decide)
    · cases (Option.some.inj hy2)
      exact lst _ _ (sc_w (by decide) (by decide +kernel)) y4 (by decide)
end
end WR.L

set_option Elab.async false
set_option linter.all false
set_option maxRecDepth 100000
set_option maxHeartbeats 400000
namespace WR.L
open PySem PySem.Spec PyProof.Rows L2
section
variable {K : PySem.W.Frag} {n k : Nat} {H H' H0 H1 : Hp} {Q : VK} {E : XK} {v w x pv gv od : V} {N M M2 : Nat} {σ : L2.St} {D : Ends} {W : WX} {xs ys : List V} {S : Str → Sp} {b : Addr} {ks : Str} {c : CD} {m : String} {a0 a1 a2 a3 a4 a5 a6 a7 a8 a9 a10 a11 a12 a13 a14 a15 : Option V}
theorem pc_len {s p : Str} (hp : p ∈ pcs s) : p.length ≤ 8 := by
  obtain ⟨i, hi, rfl⟩ := List.mem_map.mp hp
  have e1 : ((0 : Int) + (i : Nat) * 8) = ((i * 8 : Nat) : Int) := by omega
  have e2 : ((0 : Int) + (i : Nat) * 8 + 8) = ((i * 8 + 8 : Nat) : Int) := by omega
  rw [e2, e1, len_cps]
  unfold cutS
  rw [HT.sIx_nat, HT.sIx_nat]
  have := len_cps s
  simp only [List.toList_toArray, List.length_take, List.length_drop]
  omega
def TxV (x : V) : Prop := x = .non ∨ ∃ s : Str, x = .str s ∧ okTx s = true
/-- the good pieces of a text -/
theorem good_ok (hb : Bx H b N) (ht : TxV x) (h : ∀ gv xs H', Ex H H' → PcL H' b gv 8 xs → Q gv H') :
    tIf (cTest (tOp oIs (cVar 3) (tC .non))) (tLst tNil) (cCall (SP K (n+8) "_law_cut") 1 0 (fun vs _ => vs) (tCons (cVar 3) tNil) tNil W) [a0, a1, a2, some x, a4, a5, a6, a7, a8, a9, a10, a11, a12, a13, a14, a15] H Q := by
  refine tif_ (test_ (op_ (var_ rfl (const_ ?_))))
  rcases ht with rfl | ⟨s, rfl, hs⟩
  · simp only [oIs, decide_true, if_true]
    refine lst_ (nil_ ⟨sz1 (by simp), fun p hp => h _ _ _ (Ex.refl.new hp) (PcL.new hb hp (by simp) fun z hz => nomatch hz)⟩)
  · simp only [oIs, reduceCtorEq, decide_false, Bool.false_eq_true, if_false]
    refine call1_ rfl (s__law_cut (n := n + 7) (by have := (okTx_sc hs).1; omega) fun p H1 e1 hp k1 => ?_)
    refine h _ _ _ e1 ⟨p, rfl, bx_ne hb hp, k1, by rw [List.length_map]; exact pcs_len hs, fun z hz => ?_⟩
    obtain ⟨q, hq, rfl⟩ := List.mem_map.mp hz
    have hk := pcs_ok hs hq
    refine .tx (fun c hc => ?_) (by have := pc_len hq; omega)
    unfold okTx at hk
    rw [Bool.and_eq_true] at hk
    exact List.all_eq_true.mp hk.2 c hc
/-- a text that is drawn -/
theorem text_ok (hb : Bx H b N) (hN : N ≤ 100) (h : ∀ x H' N', TxV x → Fr [b] H H' → Bx H' b N' → N' ≤ N + 200 → Q x H') :
    tOp (oIx K) (tLst (tCons (tC .non) (tCons (tC (.str "")) (tCons (cCall (SP K (n+8) "_law_text") 2 0 (fun vs _ => vs) (tCons (cVar 2) (tCons (tC (.int 60)) tNil)) tNil W) (tCons (cCall (SP K (n+8) "_law_text") 2 0 (fun vs _ => vs) (tCons (cVar 2) (tCons (cCall (SP K (n+8) "_law_take") 2 0 (fun vs _ => vs) (tCons (cVar 2) (tCons (tC (.int 61)) tNil)) tNil W) tNil)) tNil W) (tCons (cCall (SP K (n+8) "_law_text") 2 0 (fun vs _ => vs) (tCons (cVar 2) (tCons (tC (.int 17)) tNil)) tNil W) tNil)))))) (cCall (SP K (n+8) "_law_take") 2 0 (fun vs _ => vs) (tCons (cVar 2) (tCons (tC (.int 5)) tNil)) tNil W) [a0, a1, some (.ref b), a3, a4, a5, a6, a7, a8, a9, a10, a11, a12, a13, a14, a15] H Q := by
  refine op_ (lst_ (con_ (con_ (cons_ (call_ (cva_ rfl (con_ (nil_ (nil_ ⟨rfl, rfl, s_text (n := n + 6) (size := 60) hb (by omega) (by decide) fun s1 H1 t1 b1 f1 => ?_⟩)))))))))
  refine cons_ (call_ (cva_ rfl (cons_ (call_ (cva_ rfl (con_ (nil_ (nil_ ⟨rfl, rfl, s_take (n := n + 7) b1 (by omega) (by decide) (by decide) fun r H2 r0 r1 b2 f2 => ?_⟩))))))))
  obtain ⟨r, rfl⟩ := Int.eq_ofNat_of_zero_le r0
  refine nil_ (nil_ ⟨rfl, rfl, s_text (n := n + 6) (size := r) b2 (by omega) (by omega) fun s3 H3 t3 b3 f3 => ?_⟩)
  refine cons_ (call_ (cva_ rfl (con_ (nil_ (nil_ ⟨rfl, rfl, s_text (n := n + 6) (size := 17) b3 (by omega) (by decide) fun s4 H4 t4 b4 f4 => nil_ ⟨sz1 (by simp), fun p hp => ?_⟩⟩)))))
  have x5 : Ex H4 (upd H4 p (.lst [.non, .str "", .str s1, .str s3, .str s4])) := Ex.refl.new hp
  have k5 : upd H4 p (.lst [.non, .str "", .str s1, .str s3, .str s4]) p = some (.lst [.non, .str "", .str s1, .str s3, .str s4]) := upd_same
  have pb := bx_ne b4 hp
  generalize upd H4 p (.lst [.non, .str "", .str s1, .str s3, .str s4]) = H5 at *
  refine call_ (cva_ rfl (con_ (nil_ (nil_ ⟨rfl, rfl, s_take (n := n + 7) (b4.ex x5) (by omega) (by decide) (by decide) fun r2 H6 r20 r21 b6 f6 => ?_⟩))))
  refine ixl (fr_at f6 pb k5) r20 (by simpa using r21) fun z hz => h _ _ _ ?_ (((((f1.trans f2).trans f3).trans f4).trans (Fr.ex x5)).trans f6) b6 (by omega)
  simp only [List.mem_cons, List.not_mem_nil, or_false] at hz
  rcases hz with rfl | rfl | rfl | rfl | rfl
  · exact .inl rfl
  · exact .inr ⟨_, rfl, by decide +kernel⟩
  · exact .inr ⟨_, rfl, t1⟩
  · exact .inr ⟨_, rfl, t3⟩
  · exact .inr ⟨_, rfl, t4⟩
/-- a card of a text -/
theorem card_ok (hb : Bx H b N) (hN : N ≤ 1000) (ht : TxV x) (h : ∀ v c H', Fr [b] H H' → Bx H' b (N + 1) → CdH H' v "key" c → OkC "key" c → Q v H') :
    tTup (tCons (tC (.str "key")) (tCons (tOp (oAdd K) (tC (.int 1)) (cCall (SP K (n+8) "_law_take") 2 0 (fun vs _ => vs) (tCons (cVar 2) (tCons (tC (.int 9)) tNil)) tNil W)) (tCons (tC (.str "ab")) (tCons (cCall (SP K (n+8) "_law_marks") 1 0 (fun vs _ => vs) (tCons (cVar 3) tNil) tNil W) tNil)))) [a0, a1, some (.ref b), some x, a4, a5, a6, a7, a8, a9, a10, a11, a12, a13, a14, a15] H Q := by
  refine tup_ (con_ (cons_ (op_ (const_ (call_ (cva_ rfl (con_ (nil_ (nil_ ⟨rfl, rfl, s_take (n := n + 7) hb (by omega) (by decide) (by decide) fun r H1 r0 r1 b1 f1 => add1 ?_⟩)))))))))
  have hs : x = .non ∨ ∃ t : Str, x = .str t ∧ t.length ≤ 100 := ht.imp id fun ⟨s, e, o⟩ => ⟨s, e, (okTx_sc o).1⟩
  refine con_ (cons_ (call1_ rfl (s__law_marks (n := n + 5) hs fun mv H2 e2 hmv => nil_ ⟨sz1 (by simp), fun p hp => ?_⟩)))
  have x3 : Ex H2 (upd H2 p (.tup [.str "key", .int (1 + r), .str "ab", mv])) := Ex.refl.new hp
  have k3 : upd H2 p (.tup [.str "key", .int (1 + r), .str "ab", mv]) p = some (.tup [.str "key", .int (1 + r), .str "ab", mv]) := upd_same
  generalize upd H2 p (.tup [.str "key", .int (1 + r), .str "ab", mv]) = H3 at *
  have F : Fr [b] H H3 := f1.trans (Fr.ex (e2.trans x3))
  have B : Bx H3 b (N + 1) := b1.ex (e2.trans x3)
  have ok : ∀ mo, OkM mo → OkC "key" ⟨1 + r, "ab", mo⟩ := fun mo om => ⟨by decide +kernel, ⟨by show 1 ≤ 1 + r; omega, by show 1 + r ≤ 999999; omega⟩, (by decide +kernel : isNm "ab" = true), om⟩
  rcases hmv with ⟨rfl, rfl⟩ | ⟨t, q, rfl, rfl, hq⟩
  · exact h _ ⟨1 + r, "ab", none⟩ _ F B ⟨p, .non, rfl, k3, rfl⟩ (ok none trivial)
  · rcases ht with z | ⟨s, e, o⟩
    · cases z
    · cases e
      exact h _ ⟨1 + r, "ab", some (mks t)⟩ _ F B ⟨p, .ref q, rfl, k3, q, rfl, x3 _ _ hq⟩ (ok _ (mks_ok o))
/-- an odd thing -/
theorem odd_ok (hb : Bx H b N) (hN : N ≤ 50000) (hc : CdH H v ks c) (oc : OkC ks c) (h : ∀ y H' N', Od H' 4 y → ¬ Crd H' y → Fr [b] H H' → Bx H' b N' → Q y H') :
    tOp (oIx K) (tLst (tCons (cCall (SP K (n+8) "_law_thing") 1 0 (fun vs _ => vs) (tCons (cVar 2) tNil) tNil W) (tCons (tCB (bList K) (tCons (cVar 4) tNil)) (tCons (tSl (oSl K) (cVar 4) tNoPart (cPart (tC (.int 3)))) (tCons (tC .non) tNil))))) (cCall (SP K (n+8) "_law_take") 2 0 (fun vs _ => vs) (tCons (cVar 2) (tCons (tC (.int 4)) tNil)) tNil W) [a0, a1, some (.ref b), a3, some v, a5, a6, a7, a8, a9, a10, a11, a12, a13, a14, a15] H Q := by
  refine op_ (lst_ (cons_ (call1_ rfl (s__law_thing3 (n := n + 6) hb (by omega) fun z1 H1 o1 n1 b1 f1 => ?_))))
  have hc1 := hc.tp (bx_tp hb f1)
  obtain ⟨p, mv, rfl, hp, hmv⟩ := hc1
  refine cons_ (cb_ (cva_ rfl (nil_ ?_)))
  simp only [bList, look_of_tup (K := K) hp]
  intro l hl
  have x2 : Ex H1 (upd H1 l (.lst [.str ks, .int c.i, .str c.b, mv])) := Ex.refl.new hl
  have k2 : upd H1 l (.lst [.str ks, .int c.i, .str c.b, mv]) l = some (.lst [.str ks, .int c.i, .str c.b, mv]) := upd_same
  have lb := bx_ne b1 hl
  generalize upd H1 l (.lst [.str ks, .int c.i, .str c.b, mv]) = H2 at *
  refine cons_ (slc_ (var_ rfl (cpt_ (const_ (sl_tup (x2 _ _ hp) fun q H3 e3 k3 => ?_)))))
  rw [show (3 : Int) = ((3 : Nat) : Int) from rfl, cut_take, show [V.str ks, .int c.i, .str c.b, mv].take 3 = [.str ks, .int c.i, .str c.b] from rfl] at k3
  refine con_ (nil_ ⟨sz1 (by simp), fun L hL => ?_⟩)
  have x4 : Ex H3 (upd H3 L (.lst [z1, .ref l, .ref q, .non])) := Ex.refl.new hL
  have k4 : upd H3 L (.lst [z1, .ref l, .ref q, .non]) L = some (.lst [z1, .ref l, .ref q, .non]) := upd_same
  have Lb := bx_ne (b1.ex (x2.trans e3)) hL
  generalize upd H3 L (.lst [z1, .ref l, .ref q, .non]) = H4 at *
  have x14 := x2.trans (e3.trans x4)
  refine call_ (cva_ rfl (con_ (nil_ (nil_ ⟨rfl, rfl, s_take (n := n + 7) (b1.ex x14) (by omega) (by decide) (by decide) fun r H5 r0 r1 b5 f5 => ?_⟩))))
  have tp5 := bx_tp (b1.ex x14) f5
  have F : Fr [b] H H5 := (f1.trans (Fr.ex x14)).trans f5
  have sk : okSc (.str ks) := isNm_sc oc.1
  have sb : okSc (.str c.b) := isNm_sc oc.2.2.1
  have si : okSc (.int c.i) := by
    have := oc.2.1
    exact Nat.lt_trans (show c.i.natAbs < 1000000 by omega) (by decide)
  refine ixl (fr_at f5 Lb k4) r0 (by simpa using r1) fun z hz => ?_
  simp only [List.mem_cons, List.not_mem_nil, or_false] at hz
  rcases hz with rfl | rfl | rfl | rfl
  · have o5 := (o1.ex x14).fr (b1.ex x14) f5 fun p e => bx_ne hb (n1 p e)
    exact h _ _ _ (o5.od.1.up (by decide)) o5.od.2 F b5
  · have k5 := fr_at f5 lb ((e3.trans x4) _ _ k2)
    refine h _ _ _ (.inr (.inl ⟨l, _, rfl, k5, by simp, fun u hu => ?_⟩)) (crd_no (.lst k5) (by decide)) F b5
    simp only [List.mem_cons, List.not_mem_nil, or_false] at hu
    rcases hu with rfl | rfl | rfl | rfl
    · exact .sc sk
    · exact .sc si
    · exact .sc sb
    · exact (((hmv.tre oc.2.2.2).up (by decide)).tp x14.tp).tp tp5
  · have k5 := tp5 _ _ (x4 _ _ k3)
    refine h _ _ _ (.inl (.tup k5 (by simp) fun u hu => ?_)) (crd_no4 k5 (by simp)) F b5
    simp only [List.mem_cons, List.not_mem_nil, or_false] at hu
    rcases hu with rfl | rfl | rfl
    · exact .sc sk
    · exact .sc si
    · exact .sc sb
  · exact h _ _ _ (.inl (.sc trivial)) (fun ⟨_, _, _, _, _, e, _⟩ => nomatch e) F b5
end
end WR.L

set_option Elab.async false
set_option linter.all false
set_option maxRecDepth 100000
set_option maxHeartbeats 400000
namespace WR.L
open PySem PySem.Spec PyProof.Rows L2
section
variable {K : PySem.W.Frag} {n : Nat} {H : Hp} {Q : VK} {E : XK}
theorem od_frz {v : V} {a : Addr} {N : Nat} {o : Obj} {u : HO} (h : Od H N v) (ha : H a = some (.frz o u)) : v ≠ .ref a := fun z => by
  subst z
  rcases h with h | ⟨p', ws, e, hq, _⟩ | ⟨p', ws, e, hq, _⟩
  · exact tre_no h fun us z => by rw [ha] at z; cases z
  · cases e; rw [ha] at hq; cases hq
  · cases e; rw [ha] at hq; cases hq
theorem s_law {a : Addr} {ns : List Int} {ob : Obj} (hx : Hx K) (ha : H a = some (.frz ob (.lst (ns.map V.int)))) (hns : ns.length ≤ 63) (h : ∀ H', Q (.bl true) H') : SP K (n+9) "law" [.ref a] H Q E := by
  refine o_law ?_
  unfold r_law
  refine seq_ fun N1 h1 => .inl ?_
  simp only [cFor, cRng1]
  refine cons_ (cb_ (con_ (cons_ (cb_ (cons_ (cb_ (cva_ rfl (nil_ ?_))))))))
  rw [len_lst rfl (xs := ns.map V.int) (by unfold look; rw [ha])]
  refine con_ (nil_ ?_)
  simp only [bMin]
  refine nil_ ?_
  simp only [bMax]
  refine nil_ ?_
  dsimp only
  generalize hcnt : (if (if (8 : Int) < ((ns.map V.int).length : Int) then (8 : Int) else ((ns.map V.int).length : Int)) > 2 then (if (8 : Int) < ((ns.map V.int).length : Int) then (8 : Int) else ((ns.map V.int).length : Int)) else 2) = cnt
  have cb : 0 ≤ cnt ∧ cnt ≤ 8 := by
    rw [← hcnt]
    split
    · split
      · exact ⟨by omega, by omega⟩
      · rename_i z1 z2; exact ⟨by omega, by omega⟩
    · exact ⟨by omega, by omega⟩
  refine ⟨⟨by omega, by omega⟩, ?_⟩
  refine lp_inv (n := cnt.toNat) (fun j σ H' => (∃ v1 v2 v3 v4 v5 v6 v7 v8 v9 v10 v11 v12 v13 v14 v15, σ = [some (.ref a), v1, v2, v3, v4, v5, v6, v7, v8, v9, v10, v11, v12, v13, v14, v15]) ∧ H' a = some (.frz ob (.lst (ns.map V.int)))) ?_ ?_ ⟨⟨_, _, _, _, _, _, _, _, _, _, _, _, _, _, _, rfl⟩, ha⟩
  · rintro σ H1 ⟨⟨v1, v2, v3, v4, v5, v6, v7, v8, v9, v10, v11, v12, v13, v14, v15, rfl⟩, ha1⟩
    exact ⟨Nat.le_refl _, h1 _ _ (ret_ (const_ (h _)))⟩
  · rintro j σ H1 hj ⟨⟨v1, v2, v3, v4, v5, v6, v7, v8, v9, v10, v11, v12, v13, v14, v15, rfl⟩, ha1⟩ R hR
    refine ⟨hj, ?_⟩
    intro x H1' hy
    obtain ⟨rfl, rfl⟩ := itr_yld hy
    rw [show (0 : Int) + (j : Nat) = ((j : Nat) : Int) from by omega]
    simp only [gName, List.set_cons_zero, List.set_cons_succ]
    refine seq_ fun N2 h2 => asg_ (call_ (cons_ (call_ (cva_ rfl (cva_ rfl (nil_ (nil_ ⟨rfl, rfl, ?_⟩)))))))
    refine s_cell (n := n + 7) (j := j) (ns := ns) (by unfold look; rw [ha1]) (by omega) fun c => nil_ (nil_ ⟨rfl, rfl, ?_⟩)
    refine s_box (n := n + 7) fun b H2 hb0 e2 b2 => h2 _ _ ?_
    have ab : a ≠ b := ne_of_none ha1 hb0
    have ha2 := e2 _ _ ha1
    simp only [List.set_cons_zero, List.set_cons_succ]
    refine seq_ fun N3 h3 => asg_ (text_ok (n := n) b2 (by decide) fun tx H3 n3 ht f3 b3 l3 => h3 _ _ ?_)
    simp only [List.set_cons_zero, List.set_cons_succ]
    have ha3 := fr_at f3 ab ha2
    refine seq_ fun N4 h4 => asg_ (card_ok (n := n) b3 (by omega) ht fun v c H4 f4 b4 c4 oc => h4 _ _ ?_)
    simp only [List.set_cons_zero, List.set_cons_succ]
    have ha4 := fr_at f4 ab ha3
    refine seq_ fun N5 h5 => asg_ (good_ok (n := n) b4 ht fun gv xs H5 e5 pl => h5 _ _ ?_)
    simp only [List.set_cons_zero, List.set_cons_succ]
    have ha5 := e5 _ _ ha4
    have b5 := b4.ex e5
    have c5 := c4.ex e5
    refine seq_ fun N6 h6 => lLoop_ok (n := n) hx b5 (by omega) c5 oc pl fun H6 n6 y6 y8 y9 y10 y11 y15 f6 b6 l6 => h6 _ _ ?_
    have ha6 := fr_at f6 ab ha5
    have c6 := c5.tp (bx_tp b5 f6)
    refine seq_ fun N7 h7 => asg_ (odd_ok (n := n) b6 (by omega) c6 oc fun od H7 n7 ho nc f7 b7 => h7 _ _ ?_)
    simp only [List.set_cons_zero, List.set_cons_succ]
    have ha7 := fr_at f7 ab ha6
    have c7 := c6.tp (bx_tp b6 f7)
    refine seq_ fun N8 h8 => ifS_ fun A B hA hB => not_ (call1_ rfl (s__law_many_right (n := n) hx b7 c7 oc fun H8 e8 => ?_))
    simp only [oTru, Bool.not_true, Bool.false_eq_true, if_false]
    refine hB _ (next_ (h8 _ _ ?_))
    have ha8 := e8 _ _ ha7
    have oa := od_frz (ho.ex e8) ha8
    refine lRef_ok (n := n) hx (c7.ex e8) oc (ho.ex e8) (fun z => nc (crd_back e8 ho.th z)) fun H9 y12 y13 y14 g9 => hR _ _ ⟨⟨_, _, _, _, _, _, _, _, _, _, _, _, _, _, _, rfl⟩, g9.1 _ _ oa ha8⟩
end
theorem law_ok : LawY y 40 12 := by
  intro K hex H a ns hl hO ha
  obtain ⟨o, ha⟩ := ha
  exact s_law (n := 3) (ns := ns) (hx_of hex) ha hl fun H' => rfl
end WR.L

set_option maxHeartbeats 0
namespace WR.L
open PySem PySem.Spec PyProof.Rows L2
theorem yok : SyOk y where
  sc := by decide +kernel
  cps := List.forall_mem_cons.mpr ⟨⟨d_is_whole, rfl, rfl, kb1⟩, List.forall_mem_cons.mpr ⟨⟨d_is_name, rfl, rfl, kb2⟩, List.forall_mem_cons.mpr ⟨⟨d_is_text, rfl, rfl, kb3⟩, List.forall_mem_cons.mpr ⟨⟨d_mark_of, rfl, rfl, kb4⟩, List.forall_mem_cons.mpr ⟨⟨d_is_list, rfl, rfl, kb5⟩, List.forall_mem_cons.mpr ⟨⟨d_is_piece, rfl, rfl, kb6⟩, List.forall_mem_cons.mpr ⟨⟨d_is_mark, rfl, rfl, kb7⟩, List.forall_mem_cons.mpr ⟨⟨d_is_card, rfl, rfl, kb8⟩, List.forall_mem_cons.mpr ⟨⟨d_need_card, rfl, rfl, kb9⟩, List.forall_mem_cons.mpr ⟨⟨d_fits, rfl, rfl, kb10⟩, List.forall_mem_cons.mpr ⟨⟨d_first_wrong, rfl, rfl, kb11⟩, List.forall_mem_cons.mpr ⟨⟨d_whole_text, rfl, rfl, kb12⟩, List.forall_mem_cons.mpr ⟨⟨d__law_cell, rfl, rfl, kb13⟩, List.forall_mem_cons.mpr ⟨⟨d__law_box, rfl, rfl, kb14⟩, List.forall_mem_cons.mpr ⟨⟨d__law_take, rfl, rfl, kb15⟩, List.forall_mem_cons.mpr ⟨⟨d__law_text, rfl, rfl, kb16⟩, List.forall_mem_cons.mpr ⟨⟨d__law_cut, rfl, rfl, kb17⟩, List.forall_mem_cons.mpr ⟨⟨d__law_mark, rfl, rfl, kb18⟩, List.forall_mem_cons.mpr ⟨⟨d__law_marks, rfl, rfl, kb19⟩, List.forall_mem_cons.mpr ⟨⟨d__law_thing, rfl, rfl, kb20⟩, List.forall_mem_cons.mpr ⟨⟨d__law_grown, rfl, rfl, kb21⟩, List.forall_mem_cons.mpr ⟨⟨d__law_turned, rfl, rfl, kb22⟩, List.forall_mem_cons.mpr ⟨⟨d__law_bent, rfl, rfl, kb23⟩, List.forall_mem_cons.mpr ⟨⟨d__law_fits, rfl, rfl, kb24⟩, List.forall_mem_cons.mpr ⟨⟨d__law_wrong, rfl, rfl, kb25⟩, List.forall_mem_cons.mpr ⟨⟨d__law_whole_due, rfl, rfl, kb26⟩, List.forall_mem_cons.mpr ⟨⟨d__law_whole_right, rfl, rfl, kb27⟩, List.forall_mem_cons.mpr ⟨⟨d__law_refused, rfl, rfl, kb28⟩, List.forall_mem_cons.mpr ⟨⟨d__law_too_many, rfl, rfl, kb29⟩, List.forall_mem_cons.mpr ⟨⟨d__law_other_kind_right, rfl, rfl, kb30⟩, List.forall_mem_cons.mpr ⟨⟨d__law_many_right, rfl, rfl, kb31⟩, List.forall_mem_cons.mpr ⟨⟨d_law, rfl, rfl, kb32⟩, fun c h => nomatch h⟩⟩⟩⟩⟩⟩⟩⟩⟩⟩⟩⟩⟩⟩⟩⟩⟩⟩⟩⟩⟩⟩⟩⟩⟩⟩⟩⟩⟩⟩⟩⟩
  cms := fun c h => nomatch h
  cks := fun c h => nomatch h
  ats := by decide +kernel
  nes := by decide +kernel
  hcs := List.forall_mem_cons.mpr ⟨⟨by decide +kernel, d__law_grown_h, rfl, rfl, rfl, kb21h⟩, fun c h => nomatch h⟩
  xcs := List.forall_mem_cons.mpr ⟨⟨rfl, rfl, rfl, by decide +kernel, by kernel_rfl, by decide +kernel, by decide +kernel, by decide +kernel, fun _ _ _ _ _ _ us hl => match us, hl with | [_, _], _ => rfl⟩, List.forall_mem_cons.mpr ⟨⟨rfl, rfl, rfl, by decide +kernel, by kernel_rfl, by decide +kernel, by decide +kernel, by decide +kernel, fun _ _ _ _ _ _ us hl => match us, hl with | [_, _], _ => rfl⟩, List.forall_mem_cons.mpr ⟨⟨rfl, rfl, rfl, by decide +kernel, by kernel_rfl, by decide +kernel, by decide +kernel, by decide +kernel, fun _ _ _ _ _ _ us hl => match us, hl with | [_, _], _ => rfl⟩, List.forall_mem_cons.mpr ⟨⟨rfl, rfl, rfl, by decide +kernel, by kernel_rfl, by decide +kernel, by decide +kernel, by decide +kernel, fun _ _ _ _ _ _ us hl => match us, hl with | [_, _], _ => rfl⟩, List.forall_mem_cons.mpr ⟨⟨rfl, rfl, rfl, by decide +kernel, by kernel_rfl, by decide +kernel, by decide +kernel, by decide +kernel, fun _ _ _ _ _ _ us hl => match us, hl with | [_, _], _ => rfl⟩, List.forall_mem_cons.mpr ⟨⟨rfl, rfl, rfl, by decide +kernel, by kernel_rfl, by decide +kernel, by decide +kernel, by decide +kernel, fun _ _ _ _ _ _ us hl => match us, hl with | [_, _], _ => rfl⟩, fun c h => nomatch h⟩⟩⟩⟩⟩⟩
abbrev R : PySem.W.OpenRow := PySem.W.OpenLaw.row PySem.Challenge.rw_peersmeet_k15_pieces_by_their_marks
theorem run (w : World) : HandSHeadRun.RunEq R (PySem.W.view R.prog [52]) (hkY y) (obY y) 9000 ("Away" :: "Barred" :: "LETTERS" :: "Lacks" :: "MARK_PRIME" :: "MOST_NUMBER" :: "MOST_PIECES" :: "MOST_SIGNS" :: "MOST_THINGS" :: "NoCard" :: "NoList" :: "NoText" :: "PER_CENT" :: "PIECE_SIGNS" :: "PeerError" :: "RING" :: "WrongPiece" :: "_law_bent" :: "_law_box" :: "_law_cell" :: "_law_cut" :: "_law_fits" :: "_law_grown" :: "_law_many_right" :: "_law_mark" :: "_law_marks" :: "_law_other_kind_right" :: "_law_refused" :: "_law_take" :: "_law_text" :: "_law_thing" :: "_law_too_many" :: "_law_turned" :: "_law_whole_due" :: "_law_whole_right" :: "_law_wrong" :: "first_wrong" :: "fits" :: "is_card" :: "is_list" :: "is_mark" :: "is_name" :: "is_piece" :: "is_text" :: "is_whole" :: "mark_of" :: "need_card" :: "whole_text" :: []) w := by
  intro os
  kernel_rfl
end WR.L
open PySem PySem.W PySem.Calls PyProof.Rows
theorem PySem.Challenge.cw_peersmeet_k15_pieces_by_their_marks_holds : PySem.Challenge.rw_peersmeet_k15_pieces_by_their_marks.Holds := by
  w_on; o_law
  refine HandSHeadRun.head_any (r := OpenLaw.row PySem.Challenge.rw_peersmeet_k15_pieces_by_their_marks) (q := view (OpenLaw.row PySem.Challenge.rw_peersmeet_k15_pieces_by_their_marks).prog [52]) (H := WR.hkY WR.L.y) (ob := WR.obY WR.L.y) (M := 9000) (loose := ("Away" :: "Barred" :: "LETTERS" :: "Lacks" :: "MARK_PRIME" :: "MOST_NUMBER" :: "MOST_PIECES" :: "MOST_SIGNS" :: "MOST_THINGS" :: "NoCard" :: "NoList" :: "NoText" :: "PER_CENT" :: "PIECE_SIGNS" :: "PeerError" :: "RING" :: "WrongPiece" :: "_law_bent" :: "_law_box" :: "_law_cell" :: "_law_cut" :: "_law_fits" :: "_law_grown" :: "_law_many_right" :: "_law_mark" :: "_law_marks" :: "_law_other_kind_right" :: "_law_refused" :: "_law_take" :: "_law_text" :: "_law_thing" :: "_law_too_many" :: "_law_turned" :: "_law_whole_due" :: "_law_whole_right" :: "_law_wrong" :: "first_wrong" :: "fits" :: "is_card" :: "is_list" :: "is_mark" :: "is_name" :: "is_piece" :: "is_text" :: "is_whole" :: "mark_of" :: "need_card" :: "whole_text" :: [])) (d := HandSHeadRun.topDef (OpenLaw.row PySem.Challenge.rw_peersmeet_k15_pieces_by_their_marks).prog 52) (kwd := []) (WR.obY_eq WR.L.y)
    (by kernel_rfl) (fun s => by kernel_rfl) WR.L.run (by kernel_rfl) (by kernel_rfl) (by kernel_rfl) (by rfl) (by first | assumption | decide +kernel) (by decide +kernel) ⟨rfl, rfl, rfl, rfl, rfl, by decide +kernel⟩ ?hw ?hc
  case hw => w_witness2
  case hc => exact WR.walkY (l := PySem.Challenge.rw_peersmeet_k15_pieces_by_their_marks) WR.L.y 40 12 WR.L.d_law WR.L.yok (by decide +kernel) rfl rfl rfl rfl ⟨_, List.mem_of_getElem? (i := 31) rfl, rfl⟩ (fun _ _ _ _ _ _ us hl => match us, hl with | [_], _ => rfl) rfl (by kernel_rfl) (by kernel_rfl) ⟨rfl, by decide, by decide⟩ WR.L.law_ok

