import PyProof.Rows.All
import Wide.All
import OpenK.AllK
import Wide.FinOn
import HandS.ForMost
import PyProof.StrBlock2
import HandS.Exc
import HandS.Wide
import HandS.Defaults
import HandS.IsInst
import HandS.TupAny
import HandS.WordsExc
import HandS.TupLe
import HandS.TupMul
import HandS.Ends
import HandS.HotCalls
import HandS.ExcCtx
import HandS.ExcInit
import HandS.ExcField
import HandS.TryMany
import HandS.Codes
import PyProof.ZipIter
import PyProof.StrLoop
import KE.KTryMore
import KE.KIsAll
import HandS.Lambda
import HandS.ExcIs
import HandS.Conv
import HandS.Sort
import HandS.Deep
import HandS.More
import PyProof.NeKinds
import PyProof.EqKinds
import HandS.Finally
import HandS.Strs
import HandS.Replace
import HandS.SortInts
import HandS.FStr
import HandS.DictComp
import HandS.DictEq
import KE.KEqDict
import KE.KCallOwn
import PyProof.InstNe
import PyProof.Rows.TmSorted
import PyProof.ReprRoads
import PyProof.CallFns
import KE.KDictList
import HandS.ListItems
import KE.SortData
import PyProof.MeetsIn
import HandS.Style
import PyProof.SliceStr2
import KE.KRevSl
import KE.DataMinKey
import KE.SortKeyHeap
import HandS.SortKw
import KE.KUnpackStar
import KE.KDictZip
import KE.KItemsList
import KE.GoesEnum
import KE.GoesMore
import HandS.Nested
import KE.SortCalls
import KE.KSortKey
import HandS.Zip
import HandS.Zip0
import HandS.SetKeys
import HandS.TupSets
import PyProof.Rows.SetFrom
import KE.KFmtOwn
import KE.GoesEnumKw
import HandS.Flow
import HandS.Head0
import HandS.Head1
import HandS.Head2
import HandS.HeadEnd
import HandS.HeadHook1
import HandS.HeadHook2
import HandS.HeadHook3
import HandS.HeadHook4
import HandS.EndTab
import HandS.WordsDict
import PyProof.Rows.SortStr
import PySem.Challenge.RW_peersmeet_k04_places_and_marks_told
set_option Elab.async false
set_option linter.all false
set_option maxRecDepth 100000
set_option maxHeartbeats 4000000
namespace WR
open PySem PySem.Spec PyProof.Rows L2

abbrev St := L2.St
/-! ## 1. the tracked view of an object -/
def absVs : List Value → Option (List V)
  | [] => some []
  | u :: us => match absV u, absVs us with
    | some v, some vs => some (v :: vs)
    | _, _ => none
theorem absV_rel {u : Value} {v : V} (h : absV u = some v) : RelV v u := by
  cases u <;> simp [absV] at h <;> subst h <;> first | rfl | exact ⟨_, rfl⟩
theorem absVs_rel : ∀ {us : List Value} {vs : List V}, absVs us = some vs → Vals vs us
  | [], vs, h => by cases h; exact .nil
  | u :: us, vs, h => by
    unfold absVs at h
    cases e1 : absV u with
    | none => rw [e1] at h; simp at h
    | some v =>
      cases e2 : absVs us with
      | none => rw [e1, e2] at h; simp at h
      | some w => rw [e1, e2] at h; cases h; exact .cons (absV_rel e1) (absVs_rel e2)

/-- a list or tuple of the written part -/
def kobj (K : PySem.W.Frag) (a : Addr) : Option HO :=
  match K.lookup a with
  | some o => match o.data with
    | .seq its _ => if its.size ≤ sizeLine then
        match absVs its.toList with
        | some vs => if (o.cls == .type "list") = true ∧ o.dict = none then some (.lst vs) else if (o.cls == .type "tuple") = true then some (.tup vs) else none
        | none => none
      else none
    | _ => none
  | none => none
/-- what is to be read at a -/
def look (K : PySem.W.Frag) (H : Hp) (a : Addr) : Option HO :=
  match H a with
  | some (.frz _ u) => some u
  | some o => some o
  | none => kobj K a

theorem kobj_lst {K : PySem.W.Frag} {H : Hp} {a : Addr} {xs : List V} (h : kobj K a = some (.lst xs)) : SqL K H a xs := by
  unfold kobj at h
  split at h
  · rename_i o ho
    split at h
    · rename_i its n hd
      split at h
      · rename_i hz
        split at h
        · rename_i vs hv
          split at h
          · rename_i hc
            cases h
            exact .inr ⟨o, its, n, ho, beq_iff_eq.mp hc.1, hc.2, hd, hz, absVs_rel hv⟩
          · split at h <;> cases h
        · cases h
      · cases h
    · cases h
  · cases h
theorem kobj_tup {K : PySem.W.Frag} {H : Hp} {a : Addr} {xs : List V} (h : kobj K a = some (.tup xs)) : SqT K H a xs := by
  unfold kobj at h
  split at h
  · rename_i o ho
    split at h
    · rename_i its n hd
      split at h
      · rename_i hz
        split at h
        · rename_i vs hv
          split at h
          · cases h
          · split at h
            · rename_i hc
              cases h
              exact .inr ⟨o, its, n, ho, beq_iff_eq.mp hc, hd, hz, absVs_rel hv⟩
            · cases h
        · cases h
      · cases h
    · cases h
  · cases h
theorem look_rd {K : PySem.W.Frag} {H : Hp} {a : Addr} {u : HO} (h : look K H a = some u) : Rd H a u ∨ (H a = none ∧ kobj K a = some u) := by
  unfold look at h
  split at h
  · rename_i o v e; cases h; exact .inl (.inr ⟨_, e⟩)
  · rename_i o hn e; cases h; exact .inl (.inl e)
  · rename_i e; exact .inr ⟨e, h⟩
theorem look_lst {K : PySem.W.Frag} {H : Hp} {a : Addr} {xs : List V} (h : look K H a = some (.lst xs)) : SqL K H a xs := by
  rcases look_rd h with r | ⟨_, r⟩
  · exact .inl r
  · exact kobj_lst r
theorem look_tup {K : PySem.W.Frag} {H : Hp} {a : Addr} {xs : List V} (h : look K H a = some (.tup xs)) : SqT K H a xs := by
  rcases look_rd h with r | ⟨_, r⟩
  · exact .inl r
  · exact kobj_tup r
theorem kobj_no {K : PySem.W.Frag} {a : Addr} {u : HO} (h : kobj K a = some u) : (∃ xs, u = .lst xs) ∨ ∃ xs, u = .tup xs := by
  unfold kobj at h
  split at h
  · split at h
    · split at h
      · split at h
        · split at h
          · cases h; exact .inl ⟨_, rfl⟩
          · split at h
            · cases h; exact .inr ⟨_, rfl⟩
            · cases h
        · cases h
      · cases h
    · cases h
  · cases h
theorem look_dK {K : PySem.W.Frag} {H : Hp} {a : Addr} {kvs : List (Key × V)} (h : look K H a = some (.dK kvs)) : Rd H a (.dK kvs) := by
  rcases look_rd h with r | ⟨_, r⟩
  · exact r
  · rcases kobj_no r with ⟨_, e⟩ | ⟨_, e⟩ <;> cases e
theorem look_of {K : PySem.W.Frag} {H : Hp} {a : Addr} {u : HO} (h : H a = some u) (hu : ∀ o w, u ≠ .frz o w) : look K H a = some u := by
  unfold look
  rw [h]
  cases u <;> first | rfl | exact absurd rfl (hu _ _)
theorem look_of_lst {K : PySem.W.Frag} {H : Hp} {a : Addr} {xs : List V} (h : H a = some (.lst xs)) : look K H a = some (.lst xs) := look_of h fun _ _ z => nomatch z
theorem look_of_tup {K : PySem.W.Frag} {H : Hp} {a : Addr} {xs : List V} (h : H a = some (.tup xs)) : look K H a = some (.tup xs) := look_of h fun _ _ z => nomatch z
theorem look_of_dK {K : PySem.W.Frag} {H : Hp} {a : Addr} {kvs : List (Key × V)} (h : H a = some (.dK kvs)) : look K H a = some (.dK kvs) := look_of h fun _ _ z => nomatch z
theorem look_ne {K : PySem.W.Frag} {H : Hp} {a b : Addr} {o : HO} (h : b ≠ a) : look K (upd H a o) b = look K H b := by
  unfold look; rw [upd_ne h]
theorem look_same {K : PySem.W.Frag} {H : Hp} {a : Addr} {o : HO} (ho : ∀ u w, o ≠ .frz u w) : look K (upd H a o) a = some o := look_of upd_same ho

/-! ## 2. weakenings -/
section
variable {X : Cx}
theorem PE_imp {e : Expr} {t t' : TE} (h : PE X e t) (k : ∀ σ H Q, t' σ H Q → t σ H Q) : PE X e t' := ⟨fun pins s σ H Q I q => h.run pins s σ H Q I (k σ H Q q)⟩
theorem PT_imp {e : Expr} {t t' : TT} (h : PT X e t) (k : ∀ σ H Q, t' σ H Q → t σ H Q) : PT X e t' := ⟨fun pins s σ H Q I q => h.run pins s σ H Q I (k σ H Q q)⟩
theorem PS_imp {e : Stmt} {t t' : TS} (h : PS X e t) (k : ∀ D σ H, t' D σ H → t D σ H) : PS X e t' := ⟨fun pins s σ H D I q => h.run pins s σ H D I (k D σ H q)⟩
theorem PSs_imp {e : List Stmt} {t t' : TS} (h : PSs X e t) (k : ∀ D σ H, t' D σ H → t D σ H) : PSs X e t' := ⟨fun pins s σ H D I q => h.run pins s σ H D I (k D σ H q)⟩
theorem OpR_imp {f : Value → Value → Sem Value} {r r' : R2} (h : OpR X f r) (k : ∀ x y H Q, r' x y H Q → r x y H Q) : OpR X f r' := fun pins s σ H x y v u Q I rx ry q => h pins s σ H x y v u Q I rx ry (k x y H Q q)
theorem CallR_imp {f : Value} {r r' : List V → Hp → VK → Prop} (h : CallR X f r) (k : ∀ xs H Q, r' xs H Q → r xs H Q) : CallR X f r' := fun pins s σ H xs us Q I rx q => h pins s σ H xs us Q I rx (k xs H Q q)
theorem MtR_imp {id : String} {r r' : V → List V → Hp → VK → Prop} (h : MtR X id r) (k : ∀ x xs H Q, r' x xs H Q → r x xs H Q) : MtR X id r' := fun pins s σ H x xs v us Q I rx rs q => h pins s σ H x xs v us Q I rx rs (k x xs H Q q)
end

/-! ## 3. operators by values -/
def oAdd (K : PySem.W.Frag) : R2 := fun x y H Q => match x, y with
  | .int i, .int j => Q (.int (i + j)) H
  | .str a, .str b => a.length + b.length ≤ sizeLine ∧ Q (.str (a ++ b)) H
  | .ref p, .ref q => match H p, H q with
    | some (.lst xs), some (.lst ys) => xs.length + ys.length ≤ sizeLine ∧ ∀ n, H n = none → Q (.ref n) (upd H n (.lst (xs ++ ys)))
    | some (.tup xs), some (.tup ys) => xs.length + ys.length ≤ sizeLine ∧ (xs = [] → Q (.ref q) H) ∧ (xs ≠ [] → ys = [] → Q (.ref p) H) ∧ (xs ≠ [] → ys ≠ [] → ∀ n, H n = none → Q (.ref n) (upd H n (.tup (xs ++ ys))))
    | _, _ => False
  | _, _ => False
def oSub : R2 := fun x y H Q => match x, y with
  | .int i, .int j => Q (.int (i - j)) H
  | _, _ => False
def oMul : R2 := fun x y H Q => match x, y with
  | .int i, .int j => CMulW i j ∧ Q (.int (i * j)) H
  | .str a, .int j => PySem.MulOk a j ∧ Q (.str (Txt.mul a j)) H
  | .ref p, .int k => match H p with
    | some (.lst xs) => -(2 ^ 63) ≤ k ∧ k < 2 ^ 63 ∧ xs.length * k.toNat ≤ sizeLine ∧ ∀ q, H q = none → Q (.ref q) (upd H q (.lst (List.replicate k.toNat xs).flatten))
    | some (.tup xs) => xs ≠ [] ∧ 2 ≤ k ∧ k ≤ 1000 ∧ xs.length ≤ 1000 ∧ ∀ q, H q = none → Q (.ref q) (upd H q (.tup (List.replicate k.toNat xs).flatten))
    | _ => False
  | _, _ => False
def oFdiv : R2 := fun x y H Q => match x, y with
  | .int i, .int j => CDivW i j ∧ Q (.int (i / j)) H
  | _, _ => False
def oMod : R2 := fun x y H Q => match x, y with
  | .int i, .int j => 0 < j ∧ Q (.int (i % j)) H
  | _, _ => False
def oPow : R2 := fun x y H Q => match x, y with
  | .int i, .int j => CPow i j ∧ Q (.int (i ^ j.toNat)) H
  | _, _ => False
def oShl : R2 := fun x y H Q => match x, y with
  | .int i, .int j => CPow i j ∧ Q (.int (i * 2 ^ j.toNat)) H
  | _, _ => False
def oLt : R2 := fun x y H Q => match x, y with
  | .int i, .int j => Q (.bl (decide (i < j))) H
  | .str a, .str b => Q (.bl (decide (a.cps.toList < b.cps.toList))) H
  | _, _ => False
def oLe : R2 := fun x y H Q => match x, y with
  | .int i, .int j => Q (.bl (decide (i ≤ j))) H
  | .str a, .str b => Q (.bl (!decide (b.cps.toList < a.cps.toList))) H
  | _, _ => False
def oGt : R2 := fun x y H Q => match x, y with
  | .int i, .int j => Q (.bl (decide (j < i))) H
  | .str a, .str b => Q (.bl (decide (b.cps.toList < a.cps.toList))) H
  | _, _ => False
def oGe : R2 := fun x y H Q => match x, y with
  | .int i, .int j => Q (.bl (decide (j ≤ i))) H
  | .str a, .str b => Q (.bl (!decide (a.cps.toList < b.cps.toList))) H
  | _, _ => False
def oEq (K : PySem.W.Frag) : R2 := fun x y H Q => (scal x y = true ∧ Q (.bl (decide (x = y))) H) ∨ rEqD K x y H Q
def oNe (K : PySem.W.Frag) : R2 := fun x y H Q => (scal x y = true ∧ Q (.bl (!decide (x = y))) H) ∨ rNeD K x y H Q
def oIs : R2 := fun x y H Q => match y with
  | .non => Q (.bl (decide (x = .non))) H
  | .bl b => (match x with
    | .bl a => Q (.bl (decide (a = b))) H
    | .int _ => Q (.bl false) H
    | _ => False)
  | _ => False
def oIsNot : R2 := fun x y H Q => match y with
  | .non => Q (.bl (!decide (x = .non))) H
  | .bl b => (match x with
    | .bl a => Q (.bl (!decide (a = b))) H
    | .int _ => Q (.bl true) H
    | _ => False)
  | _ => False
section
variable {X : Cx}
theorem r_add : OpR X (binaryOp .Add) (oAdd X.K) := by
  refine OpR_imp (op_add.or (op_add_str.or (op_cat.or op_catA))) fun x y H Q h => ?_
  unfold oAdd at h
  split at h
  · exact .inl ⟨_, _, rfl, rfl, h⟩
  · exact .inr (.inl ⟨_, _, rfl, rfl, h.1, h.2⟩)
  · split at h
    · rename_i hp hq
      exact .inr (.inr (.inl ⟨_, _, _, _, rfl, rfl, hp, hq, h.1, h.2⟩))
    · rename_i hp hq
      exact .inr (.inr (.inr ⟨_, _, _, _, rfl, rfl, .of hp, .of hq, h.1, h.2.1, h.2.2.1, h.2.2.2⟩))
    · exact h.elim
  · exact h.elim
theorem r_sub : OpR X (binaryOp .Sub) oSub := OpR_imp op_sub fun x y H Q h => by
  unfold oSub at h
  split at h
  · exact ⟨_, _, rfl, rfl, h⟩
  · exact h.elim
theorem r_mul : OpR X (binaryOp .Mult) oMul := by
  intro pins s σ H x y v u Q I rx ry h
  unfold oMul at h
  split at h
  · exact op_mulW pins s σ H _ _ v u Q I rx ry ⟨_, _, rfl, rfl, h.1, h.2⟩
  · obtain ⟨t1, rfl⟩ := rx
    obtain ⟨t2, rfl⟩ := ry
    exact PySem.SB.mul h.1 fun t' k => ⟨.str _, H, I.tok _, ⟨_, rfl⟩, h.2⟩
  · split at h
    · rename_i e
      exact op_rep pins s σ H _ _ v u Q I rx ry ⟨_, _, _, rfl, rfl, e, h.1, h.2.1, h.2.2.1, h.2.2.2⟩
    · rename_i e
      exact op_repT pins s σ H _ _ v u Q I rx ry ⟨_, _, _, rfl, rfl, .inl (.inl e), h.1, h.2.1, h.2.2.1, h.2.2.2.1, h.2.2.2.2⟩
    · exact h.elim
  · exact h.elim
theorem r_fdiv : OpR X (binaryOp .FloorDiv) oFdiv := OpR_imp op_fdivW fun x y H Q h => by
  unfold oFdiv at h
  split at h
  · exact ⟨_, _, rfl, rfl, h.1, h.2⟩
  · exact h.elim
theorem r_mod : OpR X (binaryOp .Mod) oMod := OpR_imp op_mod fun x y H Q h => by
  unfold oMod at h
  split at h
  · exact ⟨_, _, rfl, rfl, h.1, h.2⟩
  · exact h.elim
theorem r_pow : OpR X (binaryOp .Pow) oPow := OpR_imp op_pow fun x y H Q h => by
  unfold oPow at h
  split at h
  · exact ⟨_, _, rfl, rfl, h.1, h.2⟩
  · exact h.elim
theorem r_shl : OpR X (binaryOp .LShift) oShl := OpR_imp op_shl fun x y H Q h => by
  unfold oShl at h
  split at h
  · exact ⟨_, _, rfl, rfl, h.1, h.2⟩
  · exact h.elim
theorem r_lt : OpR X (compareOp .Lt) oLt := OpR_imp (op_lt.or op_lt_str) fun x y H Q h => by
  unfold oLt at h
  split at h
  · exact .inl ⟨_, _, rfl, rfl, h⟩
  · exact .inr ⟨_, _, rfl, rfl, h⟩
  · exact h.elim
theorem r_le : OpR X (compareOp .LtE) oLe := OpR_imp (op_le.or op_le_str) fun x y H Q h => by
  unfold oLe at h
  split at h
  · exact .inl ⟨_, _, rfl, rfl, h⟩
  · exact .inr ⟨_, _, rfl, rfl, h⟩
  · exact h.elim
theorem r_gt : OpR X (compareOp .Gt) oGt := OpR_imp (op_gt.or op_gt_str) fun x y H Q h => by
  unfold oGt at h
  split at h
  · exact .inl ⟨_, _, rfl, rfl, h⟩
  · exact .inr ⟨_, _, rfl, rfl, h⟩
  · exact h.elim
theorem r_ge : OpR X (compareOp .GtE) oGe := OpR_imp (op_ge.or op_ge_str) fun x y H Q h => by
  unfold oGe at h
  split at h
  · exact .inl ⟨_, _, rfl, rfl, h⟩
  · exact .inr ⟨_, _, rfl, rfl, h⟩
  · exact h.elim
theorem r_eq (hu : X.A.units + 64 < cLine) : OpR X (compareOp .Eq) (oEq X.K) := op_eq.or (op_eqD hu)
theorem r_ne (hu : X.A.units + 64 < cLine) : OpR X (compareOp .NotEq) (oNe X.K) := op_ne.or (op_neD hu)
theorem op_is_ib : OpR X (compareOp .Is) (fun x y H Q => ∃ i b, x = .int i ∧ y = .bl b ∧ Q (.bl false) H) := by
  intro pins s σ H x y v u Q I rx ry h
  obtain ⟨i, b, rfl, rfl, q⟩ := h
  obtain ⟨t, rfl⟩ := rx
  cases (show u = Value.bool b from ry)
  exact wpAny_is_other rfl (fun z => nomatch z) ⟨.bl false, H, I, rfl, q⟩
theorem op_isnot_ib : OpR X (compareOp .IsNot) (fun x y H Q => ∃ i b, x = .int i ∧ y = .bl b ∧ Q (.bl true) H) := by
  intro pins s σ H x y v u Q I rx ry h
  obtain ⟨i, b, rfl, rfl, q⟩ := h
  obtain ⟨t, rfl⟩ := rx
  cases (show u = Value.bool b from ry)
  exact wpAny_isNot_other rfl (fun z => nomatch z) ⟨.bl true, H, I, rfl, q⟩
theorem r_is : OpR X (compareOp .Is) oIs := OpR_imp (op_isN.or (op_is_bl.or op_is_ib)) fun x y H Q h => by
  unfold oIs at h
  split at h
  · exact .inl ⟨rfl, h⟩
  · split at h
    · exact .inr (.inl ⟨_, _, rfl, rfl, h⟩)
    · exact .inr (.inr ⟨_, _, rfl, rfl, h⟩)
    · exact h.elim
  · exact h.elim
theorem r_isnot : OpR X (compareOp .IsNot) oIsNot := OpR_imp (op_notN.or (op_isnot_bl.or op_isnot_ib)) fun x y H Q h => by
  unfold oIsNot at h
  split at h
  · exact .inl ⟨rfl, h⟩
  · split at h
    · exact .inr (.inl ⟨_, _, rfl, rfl, h⟩)
    · exact .inr (.inr ⟨_, _, rfl, rfl, h⟩)
    · exact h.elim
  · exact h.elim
end
end WR

set_option Elab.async false
set_option linter.all false
set_option maxRecDepth 100000
set_option maxHeartbeats 4000000
namespace WR
open PySem PySem.Spec PyProof.Rows L2

/-! ## a def's promise where no repr is under way (so that repr of lists may be asked) -/
structure FnW (P : Program) (w : World) (K : PySem.W.Frag) (mg : Str → Option Value) (base : Heap) (CX : CXT) (k : Nat) (f : Addr) (fd : FuncData) (ps : List Str) (sp : Sp) : Prop where
  len : ∀ vs H Q E, sp vs H Q E → vs.length = ps.length
  run : ∀ (A : Around) (outer : List Env) (s : Shared) (H : Hp) (args : Args) (us : List Value) (vs : List V) (Q : VK) (E : XK), Room k A → A.guards = some [] →
    Env0 P w K mg base A outer s H → BindsTo s fd args (ps.zip us) → Vals vs us → sp vs H Q E → codeAny (model P w) A (.call (.ref f) args) (CR CX outer P w H s Q E) s
theorem FnW.false_ {P : Program} {w : World} {K : PySem.W.Frag} {mg : Str → Option Value} {base : Heap} {CX : CXT} {k : Nat} {f : Addr} {fd : FuncData} {ps : List Str} : FnW P w K mg base CX k f fd ps (fun _ _ _ _ => False) :=
  ⟨fun _ _ _ _ z => z.elim, fun _ _ _ _ _ _ _ _ _ _ _ _ _ _ z => z.elim⟩
theorem gd_make {A : Around} (g : A.guards = some []) (C : Addr) (us : List Value) (kw : List (Str × Value)) : (A.under (.builtin "type.__call__" ⟨.ref C :: us, kw⟩)).guards = some [] := by
  have e : (A.under (.builtin "type.__call__" ⟨.ref C :: us, kw⟩)).guards = A.guards := by
    first
      | rfl
      | simp [Around.under, Code.guards, Code.isGuard, guardIds, pushGuards, g]
  rw [e, g]
/-- the code object of the function at f -/
def codeAt (K : PySem.W.Frag) (f : Addr) : Value := match K.lookup f with
  | some o => (match o.data with
    | .func fd => fd.code
    | _ => .none)
  | none => .none
section
variable {CX : CXT} {P : Program} {w : World} {K : PySem.W.Frag} {mg : Str → Option Value} {base : Heap} {N ps : List Str} {k : Nat} {sp : Sp} {x qual : Str} {params : Arguments} {body : List Stmt} {scope : Scope} {dvs : List V} {kws : List (Str × V)} {f : Addr} {fd : FuncData}
/-- from the reading of its body -/
theorem fnW_of (F : FunD K x qual params body scope dvs kws f fd) (S : FnScope N ps scope) (len : ∀ vs H Q E, sp vs H Q E → vs.length = ps.length)
    (hbody : ∀ (cdv : Value) (_ : cdv = codeAt K f) (A : Around) (outer : List Env) (s : Shared) (H : Hp) (vs : List V) (Q : VK) (E : XK), Room k (A.deeper (envOfC qual scope s.heap.objs.size f cdv)) → A.guards = some [] → sp vs H Q E →
      ∃ t, PSs (cxOf CX P w K mg base N qual scope f cdv A outer s H E) body t ∧ t { nx := fun _ H' => Q .non H', rt := Q } (start N vs) H) : FnW P w K mg base CX (k + 1) f fd ps sp := by
  obtain ⟨oc, od, dV, kV, doc, pm, an, cdv, ct, osl, rfl, lk, hcd, _, _⟩ := F.ex
  constructor
  · exact len
  intro A outer s H args us vs Q E room gd env binds rel want
  have KX : K.In s.heap := env.mod.kin.keeps fun b o z => (env.bs b o z).1
  have nolim : s.heap.NoLimit := env.mod.nolimit.keeps fun b o z => (env.bs b o z).1
  have known : ∀ y ∈ ps.zip us, scope.names.lookup y.1 = some .local ∨ (scope.names.lookup y.1 = some .cell ∧ ((cellsFrom (s.heap.objs.size + 1) scope.names []).lookup y.1).isSome = true) := by
    rintro ⟨n, v⟩ hy
    cases S.par n (List.of_mem_zip hy).1 with
    | inl q => exact .inl q
    | inr q => exact .inr ⟨q, PySem.W.cellsFrom_some _ _ _ (.inl q)⟩
  apply codeAny_call_function room.depth (KX _ _ lk) rfl S.co S.gen rfl (PySem.W.codeRec_of KX hcd)
  apply binds
  apply wpAny_newFunctionEnv_cells S.kind known
  rintro env' rfl s1 inc
  refine ⟨nolim.keeps inc.toInCall.keep, codeAny_func ?_⟩
  obtain ⟨t, ht, hq⟩ := hbody cdv (by unfold codeAt; rw [lk]) A outer s H vs Q E (room.deeper _) gd want
  have start_ok : Inv (cxOf CX P w K mg base N qual scope f cdv A outer s H E) [] (start N vs) H s1 := inv_start S room.hd env (len _ _ _ _ want) rel inc
  refine wpAny_mono (ht.run [] s1 (start N vs) H _ start_ok hq) ?_ (fun _ _ z => z)
  intro fl s' got
  have back : ∀ {σ' : St} {H' : Hp} {v : V} {u : Value}, Inv (cxOf CX P w K mg base N qual scope f cdv A outer s H E) [] σ' H' s' → RelV v u → Q v H' → CE outer P w H s Q u s' := by
    intro σ' H' v u J rv q
    exact ⟨v, H', J.os, J.bare, J.base, J.hok, rv, q⟩
  match fl, got with
  | .ret u, ⟨v, σ', H', J, rv, q⟩ => exact back J rv q
  | .next, ⟨σ', H', J, q⟩ => exact back (v := .non) (u := .none) J rfl q
  | .brk, ⟨_, _, _, q⟩ => exact q.elim
  | .cont, ⟨_, _, _, q⟩ => exact q.elim
end
/-! ## what is handled while a def runs: where it stands, its class, its dict -/
abbrev XI := Option (Addr × Value × Option Addr)
/-- .. at a call: out of the reach of what is tracked -/
def HotX (xi : XI) (A : Around) (outer : List Env) (H : Hp) (s : Shared) : Prop := match xi with
  | none => A.handled = none
  | some i => ∃ oe, L2H.Hot1 A (i.1, oe) ∧ L2H.PinOk outer H s (i.1, oe) ∧ L2N.Zn i.2.1 i.2.2 oe
/-- .. in a context: pinned, or there at the entry -/
def HotB (X : Cx) (xi : XI) : Prop := match xi with
  | none => X.A.handled = none
  | some i => ∃ oe, L2H.Hot1 X.A (i.1, oe) ∧ L2N.Zn i.2.1 i.2.2 oe ∧ ((i.1, oe) ∈ X.pn ∨ (X.s_0.heap.get? i.1 = some oe ∧ X.H_0 i.1 = none ∧ i.1 ∉ X.fs ∧ i.1 ∉ X.ex))
theorem HotB.there {X : Cx} {i : Addr × Value × Option Addr} (h : HotB X (some i)) : ∃ oe, L2H.Hot1 X.A (i.1, oe) ∧ L2N.Zn i.2.1 i.2.2 oe ∧
    ∀ {pins : List (Addr × Obj)} {σ : L2.St} {H : Hp} {s : Shared}, Inv X pins σ H s → s.heap.get? i.1 = some oe ∧ H i.1 = none ∧ i.1 ∉ frs X.stack := by
  obtain ⟨oe, h1, hz, h2⟩ := h
  refine ⟨oe, h1, hz, fun {pins σ H s} I => ?_⟩
  rcases h2 with h2 | ⟨e, n, nf, nx⟩
  · obtain ⟨g, f, nl, nf, _⟩ := I.pin _ (List.mem_append_left _ h2)
    exact ⟨g, f, fun m => (List.mem_cons.mp (I.stkSub _ m)).elim nl nf⟩
  · refine ⟨I.base.keep _ _ e n nf nx, I.base.free _ _ e n nx, fun m => (List.mem_cons.mp (I.stkSub _ m)).elim (fun z => ?_) nf⟩
    have lt := Heap.lt_size e
    have ab := I.ok.above
    rw [z] at lt
    exact absurd (Nat.lt_of_lt_of_le lt ab) (Nat.lt_irrefl _)
theorem HotB.to {X : Cx} {xi : XI} (h : HotB X xi) {pins : List (Addr × Obj)} {σ : L2.St} {H : Hp} {s : Shared} (I : Inv X pins σ H s) : HotX xi X.A X.stack H s := by
  cases xi with
  | none => exact h
  | some i =>
    obtain ⟨oe, h1, hz, k⟩ := h.there
    obtain ⟨g, f, ns⟩ := k I
    refine ⟨oe, h1, ⟨g, f, ns, fun v z => ?_⟩, hz⟩
    obtain ⟨_, vs, d, _⟩ := h1
    have d' : oe.data = .fields vs := d
    have z' : oe.data = .cell v := z
    rw [d'] at z'
    cases z'
theorem HotX.body {CX : CXT} {P : Program} {w : World} {K : PySem.W.Frag} {mg : Str → Option Value} {base : Heap} {N : List Str} {qual : Str} {scope : Scope} {f : Addr} {cd : Value} {A : Around} {outer : List Env} {s : Shared} {H : Hp} {E : XK} {xi : XI}
    (h : HotX xi A outer H s) : HotB { cxOf CX P w K mg base N qual scope f cd A outer s H E with calm := false } xi := by
  cases xi with
  | none => exact h
  | some i =>
    obtain ⟨oe, h1, p, hz⟩ := h
    exact ⟨oe, ⟨h1.1, h1.2⟩, hz, .inr ⟨p.get, p.free, p.nofs, fun z => nomatch z⟩⟩
theorem HotB.blk {X : Cx} {xi : XI} (h : HotB X xi) {pins : List (Addr × Obj)} {σ : L2.St} {H : Hp} {s : Shared} (I : Inv X pins σ H s) {scope : Scope} {cenv : Env} {fp : List Addr} (hf : ∀ b ∈ fp, FpOk X pins H b) : HotB (X.blk s H scope cenv fp) xi := by
  cases xi with
  | none => exact h
  | some i =>
    obtain ⟨oe, h1, hz, k⟩ := h.there
    obtain ⟨g, f, ns⟩ := k I
    refine ⟨oe, ⟨h1.1, h1.2⟩, hz, .inr ⟨g, f, ns, fun m => ?_⟩⟩
    obtain ⟨_, _, _, old, _, np⟩ := hf _ m
    obtain ⟨oe2, h1', hz', h2⟩ := h
    rcases h2 with h2 | ⟨e, n, nf, nx⟩
    · exact np _ (List.mem_append_left _ h2) rfl
    · rcases old with z | z
      · exact nx z
      · exact absurd (Nat.lt_of_lt_of_le (Heap.lt_size e) z) (Nat.lt_irrefl _)
/-! ## the promise of a def that is called while an exception is handled, or none -/
structure FnHW (P : Program) (w : World) (K : PySem.W.Frag) (mg : Str → Option Value) (base : Heap) (CX : CXT) (k : Nat) (f : Addr) (fd : FuncData) (ps : List Str) (sp : XI → Sp) : Prop where
  len : ∀ xi vs H Q E, sp xi vs H Q E → vs.length = ps.length
  run : ∀ (xi : XI) (A : Around) (outer : List Env) (s : Shared) (H : Hp) (args : Args) (us : List Value) (vs : List V) (Q : VK) (E : XK), L2H.RoomH k A → A.guards = some [] → HotX xi A outer H s →
    Env0 P w K mg base A outer s H → BindsTo s fd args (ps.zip us) → Vals vs us → sp xi vs H Q E → codeAny (model P w) A (.call (.ref f) args) (CR CX outer P w H s Q E) s
theorem FnHW.false_ {P : Program} {w : World} {K : PySem.W.Frag} {mg : Str → Option Value} {base : Heap} {CX : CXT} {k : Nat} {f : Addr} {fd : FuncData} {ps : List Str} : FnHW P w K mg base CX k f fd ps (fun _ _ _ _ _ => False) :=
  ⟨fun _ _ _ _ _ z => z.elim, fun _ _ _ _ _ _ _ _ _ _ _ _ _ _ _ _ z => z.elim⟩
theorem FnHW.w {P : Program} {w : World} {K : PySem.W.Frag} {mg : Str → Option Value} {base : Heap} {CX : CXT} {k : Nat} {f : Addr} {fd : FuncData} {ps : List Str} {sp : XI → Sp} (F : FnHW P w K mg base CX k f fd ps sp) : FnW P w K mg base CX k f fd ps (sp none) :=
  ⟨F.len none, fun A outer s H args us vs Q E r gd e b v h => F.run none A outer s H args us vs Q E (L2H.roomH_of r) gd r.hd e b v h⟩
/-- the context of its body -/
def cxW (CX : CXT) (P : Program) (w : World) (K : PySem.W.Frag) (mg : Str → Option Value) (base : Heap) (N : List Str) (qual : Str) (scope : Scope) (f : Addr) (cd : Value) (A : Around) (outer : List Env) (s : Shared) (H : Hp) (E : XK) : Cx :=
  { cxOf CX P w K mg base N qual scope f cd A outer s H E with calm := false }
section
variable {CX : CXT} {P : Program} {w : World} {K : PySem.W.Frag} {mg : Str → Option Value} {base : Heap} {N ps : List Str} {k : Nat} {sp : XI → Sp} {x qual : Str} {params : Arguments} {body : List Stmt} {scope : Scope} {dvs : List V} {kws : List (Str × V)} {f : Addr} {fd : FuncData}
theorem inv_startW {cd : Value} {A : Around} {outer : List Env} {s s1 : Shared} {H : Hp} {E : XK} {us : List Value} {vs : List V}
    (S : FnScope N ps scope) (e0 : Env0 P w K mg base A outer s H) (hl : vs.length = ps.length) (r : Vals vs us)
    (inc : InCallC s s.heap.objs.size (bindL (envOfC qual scope s.heap.objs.size f cd).kindOf (ps.zip us) fun _ => none) (cellsFrom (s.heap.objs.size + 1) scope.names []) (bindC (envOfC qual scope s.heap.objs.size f cd).kindOf (ps.zip us) fun _ => none) s1) :
    Inv (cxW CX P w K mg base N qual scope f cd A outer s H E) [] (start N vs) H s1 := by
  have e1 : Env0 P w K mg base { A with handled := none } outer s H := ⟨e0.frames, e0.mod, e0.bs, e0.bsz, e0.funs, e0.frf, e0.hok, e0.bare⟩
  have I : Inv (cxOf CX P w K mg base N qual scope f cd { A with handled := none } outer s H E) [] (start N vs) H s1 := inv_start S rfl e1 hl r inc
  have ok := I.ok
  exact ⟨⟨ok.mod, ok.kind, ok.glob, ok.blt, ok.above, ok.inj, ok.has, ok.cab, fun z => Bool.noConfusion (show false = true from z), Around.frames_deeper e0.frames, ok.stk, ok.exf, ok.bs, ok.bsz, ok.noex, ok.exfs, ok.funs, ok.frf⟩, I.os, I.bare, I.base, I.loc, I.cell, I.free, I.freeC, I.pin, I.hok, I.len⟩
/-- from the reading of its body -/
theorem fnHW_of (F : FunD K x qual params body scope dvs kws f fd) (S : FnScope N ps scope) (len : ∀ xi vs H Q E, sp xi vs H Q E → vs.length = ps.length)
    (hbody : ∀ (cdv : Value) (xi : XI) (A : Around) (outer : List Env) (s : Shared) (H : Hp) (vs : List V) (Q : VK) (E : XK), L2H.RoomH k (A.deeper (envOfC qual scope s.heap.objs.size f cdv)) → A.guards = some [] → HotB (cxW CX P w K mg base N qual scope f cdv A outer s H E) xi → sp xi vs H Q E →
      ∃ t, PSs (cxW CX P w K mg base N qual scope f cdv A outer s H E) body t ∧ t { nx := fun _ H' => Q .non H', rt := Q } (start N vs) H) : FnHW P w K mg base CX (k + 1) f fd ps sp := by
  obtain ⟨oc, od, dV, kV, doc, pm, an, cdv, ct, osl, rfl, lk, hcd, _, _⟩ := F.ex
  constructor
  · exact len
  intro xi A outer s H args us vs Q E room gd hot env binds rel want
  have KX : K.In s.heap := env.mod.kin.keeps fun b o z => (env.bs b o z).1
  have nolim : s.heap.NoLimit := env.mod.nolimit.keeps fun b o z => (env.bs b o z).1
  have known : ∀ y ∈ ps.zip us, scope.names.lookup y.1 = some .local ∨ (scope.names.lookup y.1 = some .cell ∧ ((cellsFrom (s.heap.objs.size + 1) scope.names []).lookup y.1).isSome = true) := by
    rintro ⟨n, v⟩ hy
    cases S.par n (List.of_mem_zip hy).1 with
    | inl q => exact .inl q
    | inr q => exact .inr ⟨q, PySem.W.cellsFrom_some _ _ _ (.inl q)⟩
  apply codeAny_call_function room.depth (KX _ _ lk) rfl S.co S.gen rfl (PySem.W.codeRec_of KX hcd)
  apply binds
  apply wpAny_newFunctionEnv_cells S.kind known
  rintro env' rfl s1 inc
  refine ⟨nolim.keeps inc.toInCall.keep, codeAny_func ?_⟩
  obtain ⟨t, ht, hq⟩ := hbody cdv xi A outer s H vs Q E (room.deeper _) gd hot.body want
  have start_ok : Inv (cxW CX P w K mg base N qual scope f cdv A outer s H E) [] (start N vs) H s1 := inv_startW S env (len _ _ _ _ _ want) rel inc
  refine wpAny_mono (ht.run [] s1 (start N vs) H _ start_ok hq) ?_ (fun _ _ z => z)
  intro fl s' got
  have back : ∀ {σ' : St} {H' : Hp} {v : V} {u : Value}, Inv (cxW CX P w K mg base N qual scope f cdv A outer s H E) [] σ' H' s' → RelV v u → Q v H' → CE outer P w H s Q u s' := by
    intro σ' H' v u J rv q
    exact ⟨v, H', J.os, J.bare, J.base, J.hok, rv, q⟩
  match fl, got with
  | .ret u, ⟨v, σ', H', J, rv, q⟩ => exact back J rv q
  | .next, ⟨σ', H', J, q⟩ => exact back (v := .non) (u := .none) J rfl q
  | .brk, ⟨_, _, _, q⟩ => exact q.elim
  | .cont, ⟨_, _, _, q⟩ => exact q.elim
end
/-- the law's call: the script is an object of its own, known to the object -/
theorem lawW_call {P : Program} {w : World} {K : PySem.W.Frag} {mg mb : Str → Option Value} {CX : CXT} {k : Nat} {fa a : Addr} {fd : FuncData} {x : Str} {sp : Sp} {s₁ : Shared} {vs : List Value} {ns : List Int}
    (KX : K.In s₁.heap) (hns : s₁.heap.Ns mainGlobals mg) (hb : s₁.heap.Ns builtinsNs mb) (hbb : ∀ x : Str, x ≠ "__name__" → mb x = bootBuiltins x) (hlim : s₁.heap.NoLimit) (hg : s₁.gens = #[])
    (ha : s₁.heap.get? a = some { cls := .type "list", data := .seq vs.toArray }) (hi : IntsAre vs ns) (hl : ns.length ≤ sizeLine) (hr : Room k callerA) (hK : K.lookup a = none)
    (F : ∀ base : Heap, K.In base → base.Ns mainGlobals mg → FnW P w K mg base CX k fa fd [x] sp) (hbind : ∀ (s : Shared) (u : Value), BindsTo s fd ⟨[u], []⟩ [(x, u)])
    (hsp : ∀ H : Hp, Only H → (∃ o, H a = some (.frz o (.lst (ns.map V.int)))) → sp [.ref a] H (fun v _ => v = .bl true) fun _ _ _ => False)
    (hCX : ∀ H e s', CX [] H s₁ (fun _ _ _ => False) e s' → False) :
    codeAny (model P w) callerA (.call (.ref fa) ⟨[.ref a], []⟩) (fun r s' => r = .ok (.ret (.bool true)) ∧ OldK s₁.heap s'.heap ∧ s'.os = s₁.os ∧ AllBare s'.gens) s₁ := by
  have rel := vals_ints hi
  let H : Hp := fun b => if b = a then some (.frz { cls := .type "list", data := .seq vs.toArray } (.lst (ns.map V.int))) else none
  have Ha : H a = some (.frz { cls := .type "list", data := .seq vs.toArray } (.lst (ns.map V.int))) := if_pos rfl
  have Hn : ∀ {b : Addr}, b ≠ a → H b = none := fun z => if_neg z
  have only : Only H := fun b => by
    by_cases z : b = a
    · subst z; exact .inr ⟨_, _, Ha⟩
    · exact .inl (Hn z)
  have hok : HOk P w H s₁.heap := fun b u z => by
    by_cases e : b = a
    · subst e
      rw [Ha] at z; cases z
      exact ⟨ha, by rw [List.length_map]; exact hl, vs, _, rel, ha⟩
    · rw [Hn e] at z; cases z
  have hid : ∀ {b : Addr} {o : Obj}, s₁.heap.get? b = some o → b ≠ a → (hidT s₁.heap H).get? b = some o := fun z n => hidT_get z (Hn n)
  have nsK : ∀ {b : Addr} {m : Str → Option Value}, s₁.heap.Ns b m → (hidT s₁.heap H).Ns b m := by
    rintro b m ⟨o, es, ep, z, dd, r⟩
    refine ⟨o, es, ep, hid z ?_, dd, r⟩
    rintro rfl
    rw [ha] at z; cases z; cases dd
  have KB : K.In (hidT s₁.heap H) := fun b o z => hid (KX b o z) fun e => by rw [e, hK] at z; cases z
  have M : Mod K mg (hidT s₁.heap H) := by
    obtain ⟨mc, l1, l2⟩ := hlim
    exact ⟨KB, nsK hns, ⟨mb, nsK hb, hbb⟩, ⟨mc, nsK l1, l2⟩⟩
  have env : Env0 P w K mg (hidT s₁.heap H) callerA [] s₁ H := by
    refine ⟨rfl, M, fun b o z => of_hidT z, Nat.le_of_eq (hidT_size _ _), trivial, ?_, hok, .of_eq hg⟩
    intro b hb
    exact absurd (show b ∈ ([] : List Addr) from hb) (by simp)
  refine codeAny_mono ((F _ KB (nsK hns)).run callerA [] s₁ H ⟨[.ref a], []⟩ [.ref a] [.ref a] _ _ hr rfl env (hbind s₁ (.ref a)) (.cons rfl .nil) (hsp H only ⟨_, Ha⟩)) ?_
  intro r s' got
  match r, got with
  | .error e, got => exact (hCX H e s' got).elim
  | .ok .next, got => exact False.elim got
  | .ok .brk, got => exact False.elim got
  | .ok .cont, got => exact False.elim got
  | .ok (.ret u), got =>
    obtain ⟨v, H', os, bare, un, hok', ru, q⟩ := got
    obtain rfl : v = .bl true := q
    obtain rfl : u = Value.bool true := ru
    refine ⟨rfl, OldK.of_keep fun b o z => ?_, os, bare⟩
    by_cases e : b = a
    · subst e
      rw [ha] at z; cases z
      exact (hok' b _ (un.frzs b _ _ Ha)).1
    · exact un.keep b o z (Hn e) (fun m => absurd (show b ∈ ([] : List Addr) from m) (by simp)) (by simp)
end WR

set_option Elab.async false
set_option linter.all false
set_option maxRecDepth 100000
set_option maxHeartbeats 4000000
/-! ## own exception classes over ValueError, KeyError, LookupError, made by an own __init__(self, x): B.__init__(self, text); self.f = x -/
namespace WRX
open PySem PySem.W PySem.Calls PyProof.Rows PySem.HandSPX
/-- B.__init__ is BaseException's -/
structure XIn (B initId : String) : Prop where
  plain : plainId initId = true
  entry : entryFor table initId = some Builtin.«BaseException.__init__»
  split : splitId initId = some (B, "__init__")
  kind : builtinKind initId = some .slot
  row : Manifest.signature? initId = some ⟨.positional, "*", B, .self, [⟨"args", .varPos, false⟩]⟩
  noStar : (B != "*") = true
inductive XB where | val | key | loo
  deriving DecidableEq
/-- the built-in class -/
def XB.nm : XB → String | .val => "ValueError" | .key => "KeyError" | .loo => "LookupError"
/-- the class that brings __new__ -/
def XB.mk : XB → String | .val => "ValueError" | .key => "LookupError" | .loo => "LookupError"
def XB.new : XB → String | .val => "ValueError.__new__" | .key => "LookupError.__new__" | .loo => "LookupError.__new__"
def XB.ini : XB → String | .val => "ValueError.__init__" | .key => "KeyError.__init__" | .loo => "LookupError.__init__"
def XB.tail : XB → List Value
  | .val => [.type "ValueError", .type "Exception", .type "BaseException", .type "object"]
  | .key => [.type "KeyError", .type "LookupError", .type "Exception", .type "BaseException", .type "object"]
  | .loo => [.type "LookupError", .type "Exception", .type "BaseException", .type "object"]
theorem xin (b : XB) : XIn b.nm b.ini := by
  cases b
  · exact ⟨by decide +kernel, F.excCall_ValueError.initEntry, by kernel_rfl, by kernel_rfl, by kernel_rfl, by decide +kernel⟩
  · exact ⟨by decide +kernel, entryFor_alias (id' := "BaseException.__init__") (by rw [fastTable_eq_tree]; kernel_rfl) (by first | rfl | decide +kernel) (by decide +kernel) (by rw [fastTable_eq_tree]; kernel_rfl),
      by kernel_rfl, by kernel_rfl, by kernel_rfl, by decide +kernel⟩
  · exact ⟨by decide +kernel, F.excCall_LookupError.initEntry, by kernel_rfl, by kernel_rfl, by kernel_rfl, by decide +kernel⟩
theorem xbase (b : XB) : ∃ ini bmB, ExcBaseFacts b.mk b.new ini bmB := by
  cases b
  · exact ⟨_, _, F.excBase_ValueError⟩
  · exact ⟨_, _, F.excBase_LookupError⟩
  · exact ⟨_, _, F.excBase_LookupError⟩
def isRf : Value → Bool
  | .ref _ => true
  | _ => false
/-- own classes, then the built-in tail -/
def tailB (b : XB) (l : List Value) : Bool := decide (l.dropWhile isRf = b.tail)
theorem tail_split {b : XB} {l : List Value} (h : tailB b l = true) : ∃ rs, l = rs ++ b.tail ∧ ∀ r ∈ rs, isRf r = true := by
  have e : l.dropWhile isRf = b.tail := of_decide_eq_true h
  refine ⟨l.takeWhile isRf, ?_, fun r hr => ?_⟩
  · rw [← e, List.takeWhile_append_dropWhile]
  · have aux : ∀ m : List Value, r ∈ m.takeWhile isRf → isRf r = true := by
      intro m
      induction m with
      | nil => intro z; cases z
      | cons x m ih =>
        intro z
        rw [List.takeWhile_cons] at z
        split at z
        · rcases List.mem_cons.mp z with rfl | z
          · assumption
          · exact ih z
        · cases z
    exact aux l hr
theorem rfs_has {X : String} : ∀ {rs : List Value}, (∀ r ∈ rs, isRf r = true) → rs.contains (.type X) = false
  | [], _ => rfl
  | r :: rs, h => by
    have h1 := h r (List.mem_cons_self ..)
    rw [List.contains_cons, rfs_has fun q hq => h q (List.mem_cons_of_mem _ hq), Bool.or_false]
    cases r <;> first | rfl | (simp [isRf] at h1; done)
theorem tail_has {b : XB} {l : List Value} (h : tailB b l = true) (X : String) : l.contains (.type X) = b.tail.contains (.type X) := by
  obtain ⟨rs, rfl, hr⟩ := tail_split h
  rw [List.contains_eq_any_beq, List.any_append, ← List.contains_eq_any_beq, ← List.contains_eq_any_beq, rfs_has hr, Bool.false_or]
theorem tail_pass {b : XB} (self : Value) {l : List Value} (h : tailB b l = true) : refuseLoop self "__setattr__" l = pure () := by
  obtain ⟨rs, rfl, hr⟩ := tail_split h
  induction rs with
  | nil => cases b <;> kernel_rfl
  | cons r rs ih =>
    have h1 := hr r (List.mem_cons_self ..)
    cases r <;> first | (simp [isRf] at h1; done) | skip
    rw [List.cons_append, refuseLoop_ref]
    have h2 : tailB b (rs ++ b.tail) = true := by
      have : ((.ref _ :: rs) ++ b.tail).dropWhile isRf = b.tail := of_decide_eq_true h
      rw [List.cons_append, List.dropWhile_cons] at this
      exact decide_eq_true this
    exact ih (fun q hq => hr q (List.mem_cons_of_mem _ hq)) h2
theorem tail_ne {b : XB} {l : List Value} (h : tailB b l = true) : l.isEmpty = false := by
  obtain ⟨rs, rfl, hr⟩ := tail_split h
  cases rs <;> cases b <;> rfl
section
variable {M : Model} {A : Around} {E : Value → Shared → Prop} {h : Heap} {g : Array GenState} {d : Drawn} {t : Nat} {os : OsState}
variable {nm q : Str} {C N : Addr} {bs bm bmB : List Value} {hdct : Bool} {sn : List Str} {sub : List Value} {ab : Bool} {col : Option Bool} {dd : Option Addr} {k0 k1 k2 k3 k5 : Option Value} {B newId initId : String}
theorem xm_check (F : ExcBaseFacts B newId initId bmB) (hB : bm.contains (.type B) = true) {rest : List Value} {Q : Unit → Shared → Prop}
    (hC : h.get? C = some (excClassObj nm q C N bs bm hdct sn sub ab col dd k0 k1 k2 k3 k5 newId)) (hq : Q () ⟨h, g, d, t, os⟩) :
    wpAny M A (checkBuiltinCall newId ⟨.ref C :: rest, []⟩) Q E ⟨h, g, d, t, os⟩ := by
  have into : (Value.ref C :: bm).contains (.type B) = true := by simp only [List.contains_cons, hB, Bool.or_true]
  have star := F.noStar
  simp only [checkBuiltinCall, F.newSplit, F.newKind, F.newRow]
  repeat (first
    | refine wpAny_loadPart_at hC ?_
    | (refine wpAny_isSubtype_exc hC ?_; rw [into])
    | refine wpAny_staticBase_exc hC ?_
    | refine wpAny_madeBy_exc hC ?_
    | simp only [bne_self_eq_false, Bool.false_eq_true, if_false]
    | wp_step)
  exact hq
theorem xm_check_init (J : XIn B initId) (hB : bm.contains (.type B) = true) {e : Addr} {oe : Obj} {rest : List Value} {Q : Unit → Shared → Prop}
    (hC : h.get? C = some (excClassObj nm q C N bs bm hdct sn sub ab col dd k0 k1 k2 k3 k5 newId)) (he : h.get? e = some oe) (hcls : oe.cls = .ref C) (hq : Q () ⟨h, g, d, t, os⟩) :
    wpAny M A (checkBuiltinCall initId ⟨.ref e :: rest, []⟩) Q E ⟨h, g, d, t, os⟩ := by
  have into : (Value.ref C :: bm).contains (.type B) = true := by simp only [List.contains_cons, hB, Bool.or_true]
  have star := J.noStar
  simp only [checkBuiltinCall, J.split, J.kind, J.row]
  repeat (first
    | (with_reducible refine wpAny_loadPart_at he ?_; rw [hcls])
    | with_reducible refine wpAny_loadPart_at hC ?_
    | (with_reducible refine wpAny_isSubtype_exc hC ?_; rw [into])
    | wp_step)
  refine wpAny_onRaise ?_
  have star_ok : ∀ (a b : String) (n : Nat), Bind.check ⟨.positional, "*", B, .self, [⟨"args", .varPos, false⟩]⟩ a b n (List.map (fun x => x.fst) ({ pos := Value.ref e :: rest } : Args).kw) = pure () :=
    fun a b n => check_star_args _ _ _ _ _ _
  rw [star_ok]
  exact wpAny_pure hq
end
section
variable {prog : Program} {w : World} {A : Around} {E : Value → Shared → Prop} {R : Result → Shared → Prop} {h : Heap} {g : Array GenState} {d : Drawn} {t : Nat} {os : OsState}
variable {nm q : Str} {C N : Addr} {bs bm bmB : List Value} {hdct : Bool} {sn : List Str} {sub : List Value} {ab : Bool} {col : Option Bool} {dd : Option Addr} {k0 k1 k2 k3 k5 : Option Value} {B newId initId : String}
theorem xm_new (F : ExcBaseFacts B newId initId bmB) (hB : bm.contains (.type B) = true) (hA : bm.contains (.type "AttributeError") = false) (hN : bm.contains (.type "NameError") = false) {rest : List Value}
    (hC : h.get? C = some (excClassObj nm q C N bs bm hdct sn sub ab col dd k0 k1 k2 k3 k5 newId))
    (hq : R (.ok (.ret (.ref (h.objs.size + 1)))) ⟨(h.push (kdv_tup rest)).push (excO C h.objs.size), g, d, t, os⟩) (hrest : rest.length ≤ sizeLine) :
    codeAny (model prog w) A (.builtin newId ⟨.ref C :: rest, []⟩) R ⟨h, g, d, t, os⟩ := by
  have hends := F.ends
  have b1 : (Value.ref C :: bm).contains (.type B) = true := by simp only [List.contains_cons, hB, Bool.or_true]
  have b2 : (Value.ref C :: bm).contains (.type "AttributeError") = false := by simp only [List.contains_cons, hA]; rfl
  have b3 : (Value.ref C :: bm).contains (.type "NameError") = false := by simp only [List.contains_cons, hN]; rfl
  apply codeAny_builtinAt F.entry
  unfold Builtin.«BaseException.__new__»
  refine PySem.wpAt_bind ?_
  show PySem.wpAt _ _ _ (stack >>= _) _ _ _
  refine PySem.wpAt_bind (PySem.wpAt_stack fun p below => PySem.wpAt_of_wpAny ?_)
  wp_walk
  apply PySem.wpAt_of_wpAny
  rw [F.owner]
  repeat (first
    | with_reducible refine wpAny_madeHere_exc F.canon hC ?_
    | with_reducible refine wpAny_loadPart_at hC ?_
    | (with_reducible refine wpAny_isSubtype_exc hC ?_; first | rw [b1] | rw [b2] | rw [b3])
    | wp_step)
  show R _ _
  rw [Heap.size_push]
  exact hq
theorem xm_type_call (F : ExcBaseFacts B newId initId bmB) (hB : bm.contains (.type B) = true) (hA : bm.contains (.type "AttributeError") = false) (hN : bm.contains (.type "NameError") = false) {rest : List Value} {fI : Addr} {Q : Fin → Shared → Prop}
    (hC : h.get? C = some (excClassObj nm q C N bs bm hdct sn sub ab col dd k0 k1 k2 k3 k5 newId))
    (hi : Looks (model prog w) h (typeLookup (.ref C) "__init__") (some (.ref fI))) (hb : ∀ self, Looks (model prog w) h (bindSpecial (.ref fI) self) (.ref fI, [self])) (hrest : rest.length ≤ sizeLine)
    (hq : codeAny (model prog w) A (.call (.ref fI) ⟨.ref (h.objs.size + 1) :: rest, []⟩)
      (fun r s' => match r with | .ok (.ret v) => v = .none ∧ Q (.done (.ret (.ref (h.objs.size + 1)))) s' | .ok _ => False | .error e => E e s')
      ⟨(h.push (kdv_tup rest)).push (excO C h.objs.size), g, d, t, os⟩) :
    wpAny (model prog w) A (Builtin.«type.__call__» ⟨.ref C :: rest, []⟩) Q E ⟨h, g, d, t, os⟩ := by
  repeat (first
    | with_reducible refine wpAny_loadPart_at hC ?_
    | with_reducible refine wpAny_madeBy_exc hC ?_
    | wp_step)
  apply codeAny_call_builtin_code (Code.quiet_builtin _ F.quiet)
  apply xm_check F hB hC
  refine xm_new F hB hA hN hC ?_ hrest
  show wpAny _ _ _ _ _ _
  have k : ∀ b o, h.get? b = some o → ((h.push (kdv_tup rest)).push (excO C h.objs.size)).get? b = some o := fun b o z => Heap.get?_push_of_some _ (Heap.get?_push_of_some _ z)
  have C1 := k _ _ hC
  have new_ : ((h.push (kdv_tup rest)).push (excO C h.objs.size)).get? (h.objs.size + 1) = some (excO C h.objs.size) := by heap_get
  have self_ : (Value.ref C :: bm).contains (.ref C) = true := by simp
  have i1 := hi.keeps k
  have b1 := (hb (.ref (h.objs.size + 1))).keeps k
  unfold isInstance
  repeat (first
    | with_reducible refine wpAny_loadPart_at new_ ?_
    | (with_reducible refine wpAny_isSubtype_exc C1 ?_; rw [self_])
    | wp_step)
  show wpAny _ _ (typeLookup (.ref C) _) _ _ _
  refine i1.at (wpAny_holding (wpAny_bind (b1.at (wpAny_bind (wpAny_call (codeAny_mono hq fun r s' z => ?_))))))
  rcases r with e | (v | _ | _ | _) <;> first | exact z | exact False.elim z | skip
  obtain ⟨rfl, z⟩ := z
  first
    | exact wpAny_pure (wpAny_pure z)
    | (wp_walk; exact z)
theorem xm_call (F : ExcBaseFacts B newId initId bmB) (hB : bm.contains (.type B) = true) (hA : bm.contains (.type "AttributeError") = false) (hN : bm.contains (.type "NameError") = false) {rest : List Value} {fI : Addr}
    (hC : h.get? C = some (excClassObj nm q C N bs bm hdct sn sub ab col dd k0 k1 k2 k3 k5 newId))
    (hi : Looks (model prog w) h (typeLookup (.ref C) "__init__") (some (.ref fI))) (hb : ∀ self, Looks (model prog w) h (bindSpecial (.ref fI) self) (.ref fI, [self])) (hrest : rest.length ≤ sizeLine)
    (hq : codeAny (model prog w) (A.under (.builtin "type.__call__" ⟨.ref C :: rest, []⟩)) (.call (.ref fI) ⟨.ref (h.objs.size + 1) :: rest, []⟩) (InitBack (h.objs.size + 1) R)
      ⟨(h.push (kdv_tup rest)).push (excO C h.objs.size), g, d, t, os⟩) :
    codeAny (model prog w) A (.call (.ref C) ⟨rest, []⟩) R ⟨h, g, d, t, os⟩ := by
  have l1 := tc_lookup
  have l2 := tc_bind (.ref C)
  have ty : (⟨h, g, d, t, os⟩ : Shared).TypeIs (.ref C) "type" := ⟨_, hC, rfl⟩
  apply codeAny_of_tree
  show wpAny _ _ (callAny (.ref C) _) _ _ _
  repeat (any_goals (first
    | assumption
    | with_reducible refine wpAny_loadPart_at hC ?_
    | wp_step))
  refine ⟨rfl, codeAny_call_builtin_at (Code.quiet_builtin _ (by decide +kernel)) entry_typeCall (wpAny_check_type_call_sub hC (xm_type_call F hB hA hN hC hi hb hrest ?_))⟩
  refine codeAny_mono hq fun r s' z => ?_
  rcases r with e | (v | _ | _ | _) <;> exact z
/-- B.__init__(e, ..): the args are laid anew -/
theorem xm_init (J : XIn B initId) (hB : bm.contains (.type B) = true) {e t0 : Addr} {rest : List Value}
    (hC : h.get? C = some (excClassObj nm q C N bs bm hdct sn sub ab col dd k0 k1 k2 k3 k5 newId)) (he : h.get? e = some (excO C t0)) (hrest : rest.length ≤ sizeLine)
    (hq : ∀ h' t1, (∀ b o, b ≠ e → h.get? b = some o → h'.get? b = some o) → h'.get? e = some (excO C t1) → R (.ok (.ret .none)) ⟨h', g, d, t, os⟩) :
    codeAny (model prog w) A (.call (.builtin initId) ⟨.ref e :: rest, []⟩) R ⟨h, g, d, t, os⟩ := by
  apply codeAny_call_builtin J.plain J.entry
  apply xm_check_init J hB hC he rfl
  wp_walk
  apply hq _ h.objs.size
  · intro b o hb ho
    rw [Heap.get?_update_other _ _ (Ne.symm hb)]
    exact Heap.get?_push_of_some _ ho
  · rw [Heap.get?_update_self _ (Heap.get?_push_of_some _ he) rfl]
    rfl
end
section
open Builtin Builtin.ObjectAttr
variable {prog : Program} {w : World} {A : Around} {R : Result → Shared → Prop} {hp : Heap} {g : Array GenState} {d : Drawn} {t : Nat} {os : OsState}
/-- the first field of an exception that has no dict yet -/
theorem xm_osa {K : W.Frag} {b : XB} {name : Str} {tk : Tok} {v : Value} {x C : Addr} {fv : Array Value} {cd : ClassData}
    (X : K.In hp) (hx : hp.get? x = some { cls := .ref C, data := .fields fv }) (hcd : W.clsIn K C = some cd) (hm : tailB b cd.mro = true) (hh : cd.hasDict = true) (ha : W.findIn K (.ref C) name = some none)
    (hq : ∀ h' tk' dx, (∀ b o, b ≠ x → hp.get? b = some o → h'.get? b = some o) → hp.objs.size ≤ dx → dx ≠ x → h'.get? x = some { cls := .ref C, dict := some dx, data := .fields fv } →
      h'.Ns1 dx (fun y => if y = name then some v else none) → R (.ok (.ret .none)) ⟨h', g, d, tk', os⟩) :
    codeAny (model prog w) A (.call (.builtin "object.__setattr__") ⟨[.ref x, .str name tk, v], []⟩) R ⟨hp, g, d, t, os⟩ := by
  have I : W.InstAt hp x { cls := .ref C, data := .fields fv } C none := ⟨hx, rfl, rfl, trivial⟩
  have SF := F.store_object
  have ne := tail_ne hm
  have hob : cd.mro.contains (.type "object") = true := by
    rw [tail_has hm]
    cases b <;> decide +kernel
  have apart : x ≠ hp.objs.size := Nat.ne_of_lt (Heap.lt_size hx)
  have into : W.mroIn K C (.type "object") = some true := by
    unfold W.mroIn
    rw [hcd, Option.bind_some, ne, hob]
    rfl
  have sub : W.Looks (model prog w) hp (isInstance (.ref x) (.type "object")) true := I.type.andThen (W.looks_mroIn X into)
  apply codeAny_call_builtin SF.slot.plain SF.entry
  apply @W.check_slot (model prog w) _ _ ⟨hp, g, d, t, os⟩ "object.__setattr__" "object" "__setattr__" (.ref x) [.str name tk, v] [] _ SF.kind SF.split sub (SF.args (.ref x) (.str name tk) v)
  have hmr : W.Looks (model prog w) hp (mroOf (.ref C)) cd.mro := (W.looks_clsIn X hcd).andThen .now
  have none_ : W.Looks (model prog w) hp (storeTaker? none) none := .now
  have cls_ : W.Looks (model prog w) hp (classData C) cd := W.looks_clsIn X hcd
  rw [W.osa_eq, refuse_eq]
  apply wpAny_bind
  apply wpAny_bind
  refine I.type.at (wpAny_bind (hmr.at ?_))
  rw [tail_pass _ hm]
  refine wpAny_pure (wpAny_bind (I.type.at (wpAny_bind ((W.looks_findIn X ha).at (wpAny_bind (none_.at ?_))))))
  show wpAny _ _ (storeInOwnDict (.ref x) (.ref C) (.str name tk) name v false) _ _ _
  obtain ⟨nm, bs, mro, ns, qn, hd, sn, sb, ab, col, del⟩ := cd
  dsimp only at hh
  subst hh
  unfold storeInOwnDict ownDictForStores
  repeat (first
    | with_reducible refine store_in_new ?_ ?_
    | with_reducible refine wpAny_loadPart_at hx ?_
    | with_reducible refine cls_.at ?_
    | wp_step)
  · exact ⟨_, #[], _, (Heap.get?_update_ne _ _ _ _ apart.symm).trans (Heap.get?_push_at rfl rfl), rfl, fun e he => absurd he (by simp), fun _ => rfl⟩
  · intro h' tk' hn' hs
    have hx1 : (hp.push { cls := .type "dict", data := .dict #[] }).get? x = some { cls := .ref C, data := .fields fv } := Heap.get?_push_of_some _ hx
    apply hq h' tk' hp.objs.size
    · intro b o hb ho
      exact (hs.2 b (Nat.ne_of_lt (Heap.lt_size ho))).trans ((Heap.get?_update_ne _ _ _ _ hb).trans (Heap.get?_push_of_some _ ho))
    · exact Nat.le_refl _
    · exact apart.symm
    · exact (hs.2 x apart).trans (Heap.get?_update_self _ hx1 rfl)
    · exact hn'
end
end WRX

set_option Elab.async false
set_option linter.all false
set_option maxRecDepth 100000
set_option maxHeartbeats 4000000
namespace WR
open PySem PySem.Spec PyProof.Rows L2
open WRX (XB tailB)
/-! ## own exceptions, made by C(e) where C's __init__ says B.__init__(self, text); self.f = x -/
/-- what the written part says of such a class -/
structure XcC (K : PySem.W.Frag) (b : XB) (C : Addr) : Prop where
  cls : ∃ nm q N bs bm sn sub ab col dd k0 k1 k2 k3 k5, K.lookup C = some (excClassObj nm q C N bs bm true sn sub ab col dd k0 k1 k2 k3 k5 b.new) ∧ tailB b bm = true
  sa : PySem.W.findIn K (.ref C) "__setattr__" = some (some (.builtin "object.__setattr__"))
  exC : PySem.W.subIn K (.ref C) (.type "BaseException") = some true
  tyC : PySem.W.typeIn K (.ref C) = some (.type "type")
  kC : PySem.W.keepIn K (.ref C) = true
def xcO (b : XB) (C : Addr) (o : Obj) : Bool := match o with
  | ⟨.type t, _, .cls ⟨_, _, .ref C' :: bm, _, _, true, _, _, _, _, false⟩, sl⟩ => (t == "type") && (decide (C' = C) && (tailB b bm && (match sl.toList with
    | [_, _, _, _, some (.builtin id), _] => id == b.new
    | _ => false)))
  | _ => false
theorem xcO_ok {b : XB} {C : Addr} {o : Obj} (h : xcO b C o = true) : ∃ nm q N bs bm sn sub ab col dd k0 k1 k2 k3 k5, o = excClassObj nm q C N bs bm true sn sub ab col dd k0 k1 k2 k3 k5 b.new ∧ tailB b bm = true := by
  unfold xcO at h
  split at h
  · simp only [Bool.and_eq_true, decide_eq_true_eq, beq_iff_eq] at h
    obtain ⟨rfl, rfl, h2, h3⟩ := h
    split at h3
    · rename_i e
      have e3 := beq_iff_eq.mp h3
      subst e3
      have e5 : ∀ {sl : Array (Option Value)} {l : List (Option Value)}, sl.toList = l → sl = l.toArray := fun z => Array.ext' z
      rw [e5 e]
      exact ⟨_, _, _, _, _, _, _, _, _, _, _, _, _, _, _, rfl, h2⟩
    · cases h3
  · cases h
def xcB (K : PySem.W.Frag) (b : XB) (C : Addr) : Bool := (match K.lookup C with | some o => xcO b C o | none => false) && (decide (PySem.W.findIn K (.ref C) "__setattr__" = some (some (.builtin "object.__setattr__"))) &&
  (decide (PySem.W.subIn K (.ref C) (.type "BaseException") = some true) && (decide (PySem.W.typeIn K (.ref C) = some (.type "type")) && PySem.W.keepIn K (.ref C))))
theorem xcB_ok {K : PySem.W.Frag} {b : XB} {C : Addr} (h : xcB K b C = true) : XcC K b C := by
  unfold xcB at h
  simp only [Bool.and_eq_true, decide_eq_true_eq] at h
  obtain ⟨h1, h2, h3, h4, h5⟩ := h
  refine ⟨?_, h2, h3, h4, h5⟩
  split at h1
  · rename_i o e
    obtain ⟨nm, q, N, bs, bm, sn, sub, ab, col, dd, k0, k1, k2, k3, k5, rfl, ht⟩ := xcO_ok h1
    exact ⟨nm, q, N, bs, bm, sn, sub, ab, col, dd, k0, k1, k2, k3, k5, e, ht⟩
  · cases h1
section
variable {X : Cx} {pins : List (Addr × Obj)} {σ : St} {H : Hp} {s : Shared} {a C dx P : Addr} {f : Str} {y : V} {u : Value} {fs : List (Str × V)} {b : XB}
/-- self.f = y, the first one -/
theorem ox_set {Q : Unit → Shared → Prop} {E : Value → Shared → Prop} {A : Around} (T : XcC X.K b C) (I : Inv X pins σ H s) (e : H a = some (exo a C none)) (hno : PySem.W.findIn X.K (.ref C) f = some none) (ry : RelV y u)
    (h : ∀ dx s', H dx = none → dx ≠ a → Inv X pins σ (upd (upd H dx (exd dx [(f, y)])) a (exo a C (some dx))) s' → Q () s') : wpAny (model X.prog X.w) A (setAttr (.ref a) f u) Q E s := by
  obtain ⟨nm, q, N, bs, bm, sn, sub, ab, col, dd, k0, k1, k2, k3, k5, hC, hbm⟩ := T.cls
  have data : PySem.W.clsIn X.K C = some { name := nm, bases := bs, mro := .ref C :: bm, ns := N, qualname := q, hasDict := true, slotNames := sn, subclasses := sub, abstract := ab, collection := col, hasDel := false } := by
    unfold PySem.W.clsIn
    rw [hC] <;> rfl
  obtain ⟨t1, there⟩ := exo_at I.hok e
  obtain ⟨hp, g, d, t, os⟩ := s
  have tl : tailB b (.ref C :: bm) = true := by
    unfold tailB
    rw [List.dropWhile_cons]
    exact hbm
  apply PySem.W.set_plain I.kIn (ox := { cls := .ref C, dict := none, data := .fields #[.ref t1, .none, .none, .none, .bool false, .none] }) (od := none) ⟨there, rfl, rfl, trivial⟩ T.sa
  apply WRX.xm_osa I.kIn there data tl rfl hno
  intro h' tk' dx keep far apart ox ns
  have free : H dx = none := I.hok.fresh far
  have low : ∀ {c : Addr} {o : Obj}, hp.get? c = some o → c ≠ dx := fun z => Nat.ne_of_lt (Nat.lt_of_lt_of_le (Heap.lt_size z) far)
  have not_a : ∀ {c : Addr}, H c = none → c ≠ a := by
    rintro c n rfl
    rw [e] at n
    cases n
  have un : Un X.fs [] H (upd (upd H dx (exd dx [(f, y)])) a (exo a C (some dx))) hp h' := by
    constructor
    · intro c o z n _ _
      exact keep c o (not_a n) z
    · intro c o z n _ _
      exact ⟨o.slots, keep c o (not_a n) z⟩
    · intro c o z n _
      rw [upd_ne (not_a n), upd_ne (low z)]
      exact n
    · intro c o z _
      by_cases q : c = a
      · subst q
        exact ⟨_, ox⟩
      · exact ⟨o, keep c o q z⟩
    · intro c xs z
      rw [upd_ne (at_ne e z exo_tup), upd_ne (ne_of_none z free)]
      exact z
    · intro c o v z
      rw [upd_ne (at_ne e z exo_frz), upd_ne (ne_of_none z free)]
      exact z
    · intro c ps z
      refine ⟨#[], ?_⟩
      rw [upd_ne (at_ne e z exo_tbl), upd_ne (ne_of_none z free), z]
      simp
  refine h dx _ free apart (I.un (t' := tk') un ?_)
  intro c o z
  by_cases q : c = a
  · subst q
    rw [upd_same] at z
    cases z
    exact exo_ok ox
  rw [upd_ne q] at z
  by_cases q2 : c = dx
  · subst q2
    rw [upd_same] at z
    cases z
    exact exd_ok ns (relO_put (fs := []) ry fun _ => True.intro)
  rw [upd_ne q2] at z
  refine (I.hok c o z).stay ?_ ?_ ?_
  · intro c2 v hc k
    refine keep c2 v ?_ k
    rcases hc with rfl | hc
    · exact q
    · exact at_ne e hc exo_own
  · intro c2 hc
    rw [upd_ne (at_ne e hc exo_own), upd_ne (ne_of_none hc free)]
    exact hc
  · intro c2 xs hc
    rw [upd_ne (at_ne e hc exo_tup), upd_ne (ne_of_none hc free)]
    exact hc
/-- B.__init__(self, ..) -/
theorem ox_init {us : List Value} {Q : Value → Shared → Prop} (T : XcC X.K b C) (I : Inv X pins σ H s) (e : H a = some (exo a C none)) (hl : us.length ≤ sizeLine) (h : ∀ s', Inv X pins σ H s' → Q .none s') :
    wpAny (model X.prog X.w) X.A (call (.builtin b.ini) (.ref a :: us)) Q X.xe s := by
  obtain ⟨nm, q, N, bs, bm, sn, sub, ab, col, dd, k0, k1, k2, k3, k5, hC, hbm⟩ := T.cls
  obtain ⟨t1, there⟩ := exo_at I.hok e
  obtain ⟨hp, g, d, t, os⟩ := s
  have into : bm.contains (.type b.nm) = true := by
    rw [WRX.tail_has hbm]
    cases b <;> decide +kernel
  refine wpAny_call (WRX.xm_init (WRX.xin b) into (I.kIn _ _ hC) there hl fun h' t2 keep ox => ?_)
  have J := I.write (t' := t) (x := a) (e := a) (o := exo a C none) (by rw [e]; exact True.intro) (.inl rfl) keep ⟨_, ox⟩ (exo_ok ox)
  have same : upd H a (exo a C none) = H := funext fun c => by
    by_cases q : c = a
    · rw [q, upd_same, e]
    · rw [upd_ne q]
  rw [same] at J
  exact h _ J
/-- attributes of the class P are read plainly, its __init__ is B's -/
structure XpC (K : PySem.W.Frag) (b : XB) (P : Addr) : Prop where
  rd : PySem.W.readsIn K P (.type "type") = true
  ga : PySem.W.specialIn K (.ref P) "__getattribute__" = some (some (.builtin "type.__getattribute__"))
  ini : ∃ r, PySem.W.findCls K (.ref P) (.type "type") "__init__" = some r ∧ r = .val (.builtin b.ini)
def isV (r : Option PySem.W.CFound) (id : String) : Bool := match r with
  | some (.val (.builtin i)) => i == id
  | _ => false
def xpB (K : PySem.W.Frag) (b : XB) (P : Addr) : Bool := PySem.W.readsIn K P (.type "type") && (decide (PySem.W.specialIn K (.ref P) "__getattribute__" = some (some (.builtin "type.__getattribute__"))) &&
  isV (PySem.W.findCls K (.ref P) (.type "type") "__init__") b.ini)
theorem xpB_ok {K : PySem.W.Frag} {b : XB} {P : Addr} (h : xpB K b P = true) : XpC K b P := by
  unfold xpB at h
  simp only [Bool.and_eq_true, decide_eq_true_eq] at h
  refine ⟨h.1, h.2.1, ?_⟩
  have h3 := h.2.2
  unfold isV at h3
  split at h3
  · rename_i i e
    exact ⟨_, e, by rw [beq_iff_eq.mp h3]⟩
  · cases h3
end
/-- what it promises -/
def spX (b : XB) (K : PySem.W.Frag) (f : Str) : Sp := fun vs H Q _ => ∃ a y C, vs = [.ref a, y] ∧ XcC K b C ∧ PySem.W.findIn K (.ref C) f = some none ∧ H a = some (exo a C none) ∧ ∀ dx, H dx = none → dx ≠ a → Q .non (upd (upd H dx (exd dx [(f, y)])) a (exo a C (some dx)))
end WR

set_option Elab.async false
set_option linter.all false
set_option maxRecDepth 100000
set_option maxHeartbeats 4000000
namespace WRH
open PySem PySem.Spec PyProof.Rows HotX
/-! ## ends of iterators, whether an exception is handled or not -/
def HotOr (A : Around) (h : Heap) : Prop := A.handled = none ∨ ∃ x, HotAt A x h
theorem hotAt_keep {A : Around} {x : Addr} {h h' : Heap} (t : HotAt A x h) (k : ∀ o, h.get? x = some o → h'.get? x = some o) : HotAt A x h' := by
  obtain ⟨a, o, vs, b, c, d⟩ := t
  exact ⟨a, o, vs, k o b, c, d⟩
theorem HotOr.keep {A : Around} {it : Addr} {h h' : Heap} {oi : Obj} {vi : Array Value} (t : HotOr A h) (ei : h.get? it = some oi) (di : oi.data = .fields vi) (ni : vi[2]? ≠ some .none)
    (k : ∀ b o, b ≠ it → h.get? b = some o → h'.get? b = some o) : HotOr A h' := by
  rcases t with t | ⟨x, t⟩
  · exact .inl t
  · refine .inr ⟨x, hotAt_keep t fun o e => k x o ?_ e⟩
    rintro rfl
    obtain ⟨_, o2, vs, b, c, d⟩ := t
    rw [ei] at b
    cases b
    rw [di] at c
    cases c
    exact ni d
section
variable {prog : Program} {w : World} {A : Around} {E : Value → Shared → Prop} {s : Shared}
theorem stop_ {α : Type} {Q : α → Shared → Prop} (hot : HotOr A s.heap)
    (hE : ∀ h' e, (∀ b o, s.heap.get? b = some o → h'.get? b = some o) → (∃ o, h'.get? e = some o ∧ o.cls = .type "StopIteration") → E (.ref e) { s with heap := h' }) :
    wpAny (model prog w) A (newExc (.type "StopIteration") [] >>= fun e => (raiseNew e : Sem α)) Q E s := by
  refine wpAny_bind ?_; simp only [newExc, newTuple]
  refine wpAny_bind (wpAny_newObj_type ?_ (by size_fits)); refine wpAny_bind (m := firstArgMember _ _) (wpAny_of_eq (a := Value.none) (by first | rfl | (simp only [firstArgMember]; rfl)) ?_)
  refine wpAny_newObj_type ?_ (by size_fits); rcases hot with hh | ⟨x, hh, o1, vs1, h1, d1, c1⟩
  · unfold raiseNew; refine wpAny_bind (wpAny_handled ?_); rw [hh]
    exact wpAny_bind (wpAny_pure (wpAny_throw (hE _ _ (fun b o e => Heap.get?_push_of_some _ (Heap.get?_push_of_some _ e)) ⟨_, Heap.get?_push_size _ rfl, rfl⟩)))
  · have h2 := Heap.get?_push_of_some { cls := .type "tuple", data := .seq ([] : List Value).toArray } h1
    refine raiseNew_hot ⟨hh, o1, vs1, Heap.get?_push_of_some _ h2, d1, c1⟩ (Nat.ne_of_lt (Heap.lt_size h2)) (Heap.get?_push_size _ rfl) rfl (by first | (simp; done) | (simp; omega) | (simp only [Array.size_append]; simp; omega)) ?_
    refine hE _ _ (fun b o e => ?_) ⟨_, Heap.get?_update_self _ (Heap.get?_push_size _ rfl) rfl, rfl⟩
    have e2 := Heap.get?_push_of_some { cls := .type "tuple", data := .seq ([] : List Value).toArray } e
    rw [Heap.get?_update_other _ _ (Nat.ne_of_gt (Heap.lt_size e2))]
    exact Heap.get?_push_of_some _ e2
theorem of_stop {it : Addr} {Q : Option Value → Shared → Prop} (h' : Heap) (e : Addr) (q : Q none { s with heap := h' }) (x : ∃ o, h'.get? e = some o ∧ o.cls = .type "StopIteration") :
    wpAny (model prog w) A (isInstance (.ref e) (.type "StopIteration") >>= fun b => if b = true then pure none else throw (.ref e)) Q E { s with heap := h' } := by
  obtain ⟨o, ho, hc⟩ := x
  refine wpAny_bind (wpAny_isInstance (T := "StopIteration") (b := true) ⟨o, ho, hc⟩ isSubtype_stop ?_)
  exact wpAny_pure q
theorem range_done {it : Addr} {x left step : Int} {Q : Option Value → Shared → Prop} (hot : HotOr A s.heap) (hit : IsRangeIter s.heap it x left step) (hleft : left ≤ 0)
    (hQ : ∀ h', (∀ b o, b ≠ it → s.heap.get? b = some o → h'.get? b = some o) → Q none { s with heap := h' }) : wpAny (model prog w) A (pyNext (.ref it)) Q E s := by
  rcases hot with t | ⟨x1, t⟩
  · exact wpAny_pyNext_range_end t hit hleft fun h' k => hQ h' fun b o n e => k b o n e
  · exact pyNext_range_end_hot t hit hleft fun h' k => hQ h' fun b o _ e => k b o e
theorem list_done {it l : Addr} {i : Nat} {items} {Q : Option Value → Shared → Prop} (hot : HotOr A s.heap) (hit : s.heap.IsListIter it l i) (hl : s.heap.IsList l items) (hx : items[i]? = none)
    (hQ : ∀ h', (∀ b o, b ≠ it → s.heap.get? b = some o → h'.get? b = some o) → Q none { s with heap := h' }) : wpAny (model prog w) A (pyNext (.ref it)) Q E s := by
  obtain ⟨o, ho, hc, hd⟩ := id hit
  obtain ⟨ol, hol, _, nl, hdl⟩ := hl
  unfold pyNext; refine wpAny_bind (wpAny_attempt (wpAny_callSpecial?_slot (name := Str.ofString "__next__") hit.typeIs slot_listiter_next (wpAny_call_entry slot_listiter_next hit.typeIs entry_listiter_next ?_ (args_listiter_next _))))
  show wpAny _ _ (field (.ref it) 0 >>= _) _ _ s; refine wpAny_bind (wpAny_field ho hd (x := .ref l) rfl ?_)
  show wpAny _ _ (if (Value.ref l == Value.none) = true then _ else _) _ _ s; rw [if_neg (show ¬ ((Value.ref l == Value.none) = true) from Bool.false_ne_true)]
  show wpAny _ _ (field (.ref it) 1 >>= _) _ _ s; refine wpAny_bind (wpAny_field ho hd (x := .int i 0) rfl ?_)
  show wpAny _ _ (seqItems? (.ref l) >>= _) _ _ s; refine wpAny_bind (wpAny_seqItems hol hdl ?_); simp only [Int.toNat_natCast, hx]
  refine wpAny_bind (wpAny_rule (wpAny_bind (wpAny_setField ho hd (by simp) ?_))); show wpAny _ _ (newExc (.type "StopIteration") [] >>= _) _ _ _
  refine stop_ (hot.keep ho hd (by simp) fun b o' n e => ((Heap.SameBut.update ..).2 b n).trans e) fun h' e k2 x => ?_
  exact of_stop (it := it) h' e (hQ _ fun b o' n z => k2 b o' (((Heap.SameBut.update ..).2 b n).trans z)) x
theorem ascii_done {it : Addr} {x : Str} {t : Tok} {i : Nat} {Q : Option Value → Shared → Prop} (hot : HotOr A s.heap) (hit : s.heap.IsStrIter it "str_ascii_iterator" x t i) (hx : x.cps[i]? = none)
    (hQ : ∀ h', (∀ b o, b ≠ it → s.heap.get? b = some o → h'.get? b = some o) → Q none { s with heap := h' }) : wpAny (model prog w) A (pyNext (.ref it)) Q E s := by
  obtain ⟨o, ho, hc, hd⟩ := id hit
  unfold pyNext; refine wpAny_bind (wpAny_attempt (wpAny_callSpecial?_slot (name := Str.ofString "__next__") hit.typeIs F.slot_str_ascii_iterator_next (wpAny_call_entry F.slot_str_ascii_iterator_next hit.typeIs F.entry_str_ascii_iterator_next ?_ (F.args_str_ascii_iterator_next_1 _))))
  show wpAny _ _ (field (.ref it) 0 >>= _) _ _ s; refine wpAny_bind (wpAny_field ho hd (x := .str x t) rfl ?_)
  show wpAny _ _ (field (.ref it) 1 >>= _) _ _ s; refine wpAny_bind (wpAny_field ho hd (x := .int i 0) rfl ?_); simp only [Int.toNat_natCast, hx]
  refine wpAny_bind (wpAny_rule (wpAny_bind (wpAny_setField ho hd (by simp) (wpAny_bind (wpAny_letGo ?_))))); show wpAny _ _ (newExc (.type "StopIteration") [] >>= _) _ _ _
  refine stop_ (hot.keep ho hd (by simp) fun b o' n e => ((Heap.SameBut.update ..).2 b n).trans e) fun h' e k2 x => ?_
  exact of_stop (it := it) h' e (hQ _ fun b o' n z => k2 b o' (((Heap.SameBut.update ..).2 b n).trans z)) x
theorem wide_done {it : Addr} {x : Str} {t : Tok} {i : Nat} {Q : Option Value → Shared → Prop} (hot : HotOr A s.heap) (hit : s.heap.IsStrIter it "str_iterator" x t i) (hx : x.cps[i]? = none)
    (hQ : ∀ h', (∀ b o, b ≠ it → s.heap.get? b = some o → h'.get? b = some o) → Q none { s with heap := h' }) : wpAny (model prog w) A (pyNext (.ref it)) Q E s := by
  obtain ⟨o, ho, hc, hd⟩ := id hit
  unfold pyNext; refine wpAny_bind (wpAny_attempt (wpAny_callSpecial?_slot (name := Str.ofString "__next__") hit.typeIs F.slot_str_iterator_next (wpAny_call_entry F.slot_str_iterator_next hit.typeIs F.entry_str_iterator_next ?_ (F.args_str_iterator_next_1 _))))
  show wpAny _ _ (field (.ref it) 0 >>= _) _ _ s; refine wpAny_bind (wpAny_field ho hd (x := .str x t) rfl ?_)
  show wpAny _ _ (field (.ref it) 1 >>= _) _ _ s; refine wpAny_bind (wpAny_field ho hd (x := .int i 0) rfl ?_); simp only [Int.toNat_natCast, hx]
  refine wpAny_bind (wpAny_rule (wpAny_bind (wpAny_setField ho hd (by simp) (wpAny_bind (wpAny_letGo ?_))))); show wpAny _ _ (newExc (.type "StopIteration") [] >>= _) _ _ _
  refine stop_ (hot.keep ho hd (by simp) fun b o' n e => ((Heap.SameBut.update ..).2 b n).trans e) fun h' e k2 x => ?_
  exact of_stop (it := it) h' e (hQ _ fun b o' n z => k2 b o' (((Heap.SameBut.update ..).2 b n).trans z)) x
theorem nextOf_done {it l : Addr} {i : Nat} {items} {Q : Value → Shared → Prop} (hot : HotOr A s.heap) (hit : s.heap.IsListIter it l i) (hl : s.heap.IsList l items) (hx : items[i]? = none)
    (hE : ∀ h' e, (∀ b o, b ≠ it → s.heap.get? b = some o → h'.get? b = some o) → (∃ o, h'.get? e = some o ∧ o.cls = .type "StopIteration") → E (.ref e) { s with heap := h' }) :
    wpAny (model prog w) A (Builtin.SmallTypes.nextOf (.ref it)) Q E s := by
  obtain ⟨o, ho, hc, hd⟩ := id hit
  obtain ⟨ol, hol, _, nl, hdl⟩ := hl
  unfold Builtin.SmallTypes.nextOf; refine wpAny_bind (wpAny_callSpecial?_slot (name := Str.ofString "__next__") hit.typeIs slot_listiter_next (wpAny_call_entry slot_listiter_next hit.typeIs entry_listiter_next ?_ (args_listiter_next _)))
  show wpAny _ _ (field (.ref it) 0 >>= _) _ _ s; refine wpAny_bind (wpAny_field ho hd (x := .ref l) rfl ?_)
  show wpAny _ _ (if (Value.ref l == Value.none) = true then _ else _) _ _ s; rw [if_neg (show ¬ ((Value.ref l == Value.none) = true) from Bool.false_ne_true)]
  show wpAny _ _ (field (.ref it) 1 >>= _) _ _ s; refine wpAny_bind (wpAny_field ho hd (x := .int i 0) rfl ?_)
  show wpAny _ _ (seqItems? (.ref l) >>= _) _ _ s; refine wpAny_bind (wpAny_seqItems hol hdl ?_); simp only [Int.toNat_natCast, hx]
  refine wpAny_bind (wpAny_rule (wpAny_bind (wpAny_setField ho hd (by simp) ?_))); show wpAny _ _ (newExc (.type "StopIteration") [] >>= _) _ _ _
  exact stop_ (hot.keep ho hd (by simp) fun b o' n e => ((Heap.SameBut.update ..).2 b n).trans e) fun h' e k2 x => hE h' e (fun b o' n z => k2 b o' (((Heap.SameBut.update ..).2 b n).trans z)) x
theorem zip_done {z TI TO i1 i2 l1 l2 : Addr} {k1 k2 : Nat} {xs : Array Value} {a b : Value} {Q : Option Value → Shared → Prop} (hot : HotOr A s.heap) (D : ZipApart z TI TO i1 i2 l1 l2)
    (hz : IsZip s.heap z TI TO .none) (hTI : IsPair s.heap TI (.ref i1) (.ref i2)) (hTO : IsPair s.heap TO a b) (h1 : s.heap.IsListIter i1 l1 k1) (hl1 : s.heap.IsList l1 xs) (hx : xs[k1]? = none)
    (hQ : ∀ h', (∀ c o, c ≠ z → c ≠ TO → c ≠ i1 → c ≠ i2 → s.heap.get? c = some o → h'.get? c = some o) → Q none { s with heap := h' }) : wpAny (model prog w) A (pyNext (.ref z)) Q E s := by
  have hT : s.TypeIs (.ref z) "zip" := ⟨_, hz, rfl⟩
  unfold pyNext; refine wpAny_bind (wpAny_attempt (wpAny_callSpecial?_slot (name := Str.ofString "__next__") hT F.slot_zip_next (wpAny_call_entry F.slot_zip_next hT F.entry_zip_next ?_ (F.args_zip_next_1 _))))
  show wpAny _ _ (field (.ref z) 2 >>= _) _ _ _; refine wpAny_bind (wpAny_field hz rfl (x := .bool false) rfl ?_)
  show wpAny _ _ (field (.ref z) 3 >>= _) _ _ _; refine wpAny_bind (wpAny_field hz rfl (x := .ref TI) rfl ?_); refine wpAny_bind (wpAny_seqItems hTI rfl ?_)
  show wpAny _ _ (Builtin.SmallTypes.ownedTupleIsFree (.ref z) >>= _) _ _ _; refine wpAny_bind ?_; unfold Builtin.SmallTypes.ownedTupleIsFree
  refine wpAny_bind (wpAny_field hz rfl (x := .none) rfl (wpAny_pure ?_)); simp only [if_true]
  refine wpAny_bind (wpAny_rule ?_); refine wpAny_bind (wpAny_field hz rfl (x := .ref TO) rfl ?_)
  refine wpAny_bind (wpAny_setField_rec hz (by simp) fun h₁ hz₁ hs₁ => ?_); replace hz₁ : IsZip h₁ z TI TO .ellipsis := hz₁
  refine wpAny_bind ?_; simp only [List.zipIdx_cons, List.zipIdx_nil, List.forIn_cons, List.forIn_nil]
  refine wpAny_bind (wpAny_bind (wpAny_onRaise ?_)); show wpAny _ _ (Builtin.SmallTypes.nextOf (.ref i1) >>= _) _ _ _
  have up1 : ∀ b o, b ≠ z → s.heap.get? b = some o → h₁.get? b = some o := fun b o n e => hs₁.extBut _ _ n e
  refine wpAny_bind (nextOf_done (hot.keep hz rfl (by simp) up1) (h1.extBut hs₁.extBut D.i1z) (hl1.extBut hs₁.extBut D.l1z) hx fun h₂ e hs₂ he => ?_)
  obtain ⟨oe, hoe, hce⟩ := he
  have hz₂ : IsZip h₂ z TI TO .ellipsis := hs₂ _ _ D.i1z.symm hz₁
  have hez : e ≠ z := by
    rintro rfl
    rw [hz₂] at hoe; cases hoe; simp at hce
  refine wpAny_setField_rec hz₂ (by simp) fun h₃ _ hs₃ => ?_
  exact of_stop (it := z) h₃ e (hQ _ fun c o c1 _ c3 _ x => hs₃.extBut _ _ c1 (hs₂ _ _ c3 (up1 _ _ c1 x))) ⟨oe, hs₃.extBut _ _ hez hoe, hce⟩
end
end WRH
namespace WR
open PySem PySem.Spec PyProof.Rows L2
/-! ## exceptions whose context is None -/
theorem HotB.or {X : Cx} {xi : XI} (h : HotB X xi) {pins : List (Addr × Obj)} {σ : L2.St} {H : Hp} {s : Shared} (I : Inv X pins σ H s) : WRH.HotOr X.A s.heap := by
  cases xi with
  | none => exact .inl h
  | some i =>
    obtain ⟨oe, h1, hz, k⟩ := h.there
    obtain ⟨a, vs, d, c⟩ := h1
    exact .inr ⟨i.1, a, oe, vs, (k I).1, d, c⟩
theorem takes0 {X : Cx} : L2N.Takes X (fun _ _ _ _ => False) := by
  rintro u s' ⟨a, B, sI, pins, σ, H, cls, d, _, _, _, _, _, _, _, _, w⟩
  exact w.elim
theorem mk_endN {X : Cx} {pins : List (Addr × Obj)} {σ : L2.St} {H1 H2 : Hp} {Q : XK} {hp hp2 h2 : Heap} {g1 g2 : Array GenState} {d1 d2 : Drawn} {t1 t2 : Nat} {os1 os2 : OsState} {a C d : Addr} {fs : List (Str × V)} (T : Raises X (.ref C)) (I1 : Inv X pins σ H1 ⟨hp, g1, d1, t1, os1⟩)
    (ha : hp.objs.size ≤ a) (k : ∀ b o, hp.get? b = some o → hp2.get? b = some o) (un : Un (frs X.stack) [] (upd H1 a (exo a C none)) H2 hp2 h2) (hok : HOk X.prog X.w H2 h2) (ho : os2 = os1)
    (hb : AllBare g2) (ea : H2 a = some (exo a C (some d))) (ed : H2 d = some (exd d fs)) (hd1 : H1 d = none) (q : Q (.ref C) (some d) (upd (del H2 a) d (.xd fs))) : L2N.MkP X pins σ Q (.ref a) ⟨h2, g2, d2, t2, os2⟩ := by
  obtain ⟨t0, G, J, kG, ge, hoe, na⟩ := mk_end0 (d2 := d2) (t2 := t2) I1 ha k un hok ho hb ea ed hd1
  refine ⟨a, _, _, ⟨G, g2, d2, t2, os2⟩, _, .ref C, some d, rfl, J, kG, ge, hoe, ⟨rfl, rfl, ?_⟩, rfl, rfl, na, rfl, hb, T, q⟩
  intro vs z
  cases z
  rfl
end WR

set_option Elab.async false
set_option linter.all false
set_option maxRecDepth 100000
set_option maxHeartbeats 4000000
namespace WRT
open PySem PySem.W PySem.Calls PySem.Spec PyProof.Rows
/-! ## a clause that names several classes -/
section
variable {M : Model} {A : Around} {E : Value → Shared → Prop}
theorem loop_all {β : Type} {f : Value → β → Sem (ForInStep β)} {b : β} {Q : β → Shared → Prop} {s : Shared} : ∀ {cs : List Value}, (∀ c ∈ cs, ∀ Q' : ForInStep β → Shared → Prop, Q' (.yield b) s → wpAny M A (f c b) Q' E s) → Q b s → wpAny M A (forIn cs b f) Q E s
  | [], _, q => wpAny_pure q
  | c :: cs, h, q => by
    rw [List.forIn_cons]
    exact wpAny_bind (h c List.mem_cons_self _ (loop_all (fun d m => h d (List.mem_cons_of_mem _ m)) q))
theorem loop_any {β : Type} {f : Value → β → Sem (ForInStep β)} {b d : β} {t : Value → Bool} {Q : β → Shared → Prop} {s : Shared} :
    ∀ {cs : List Value}, (∀ c ∈ cs, ∀ Q' : ForInStep β → Shared → Prop, Q' (if t c = true then .done d else .yield b) s → wpAny M A (f c b) Q' E s) → Q (if cs.any t = true then d else b) s → wpAny M A (forIn cs b f) Q E s
  | [], _, q => wpAny_pure q
  | c :: cs, h, q => by
    rw [List.forIn_cons]
    refine wpAny_bind (h c List.mem_cons_self _ ?_)
    rw [List.any_cons] at q
    cases e : t c with
    | true =>
      rw [e, Bool.true_or, if_pos rfl] at q
      exact wpAny_pure q
    | false =>
      rw [e, Bool.false_or] at q
      exact loop_any (fun d m => h d (List.mem_cons_of_mem _ m)) q
end
theorem any_of {K : Frag} {cls : Value} : ∀ {cs : List Value} {b : Bool}, exmAny K cls cs = some b → (∀ c ∈ cs, ∃ v, exmOne K cls c = some v) ∧ cs.any (fun c => exmOne K cls c == some true) = b
  | [], b, h => by
    cases h
    refine ⟨?_, rfl⟩
    intro c m
    exact absurd m List.not_mem_nil
  | c :: cs, b, h => by
    obtain ⟨b1, d1, x1, y1, rfl⟩ := exmAny_cons h
    obtain ⟨z1, z2⟩ := any_of y1
    refine ⟨fun d m => ?_, ?_⟩
    · rcases List.mem_cons.mp m with rfl | m
      · exact ⟨_, x1⟩
      · exact z1 d m
    · rw [List.any_cons, z2, x1]
      cases b1 <;> rfl
theorem exm_tups {M : Model} {K : Frag} {cs : List Value} {cls : Value} {tp e : Addr} {b : Bool} {h : Heap} (X : K.In h) (LT : Looks M h (typeOf (.ref e)) cls) (hp : h.get? tp = some { cls := .type "tuple", data := .seq cs.toArray }) (hx : exmAny K cls cs = some b) :
    Looks M h (excMatches (.ref e) (.ref tp)) b := by
  intro A Q E s k₀ q
  obtain ⟨hh, g, d, tk, os⟩ := s
  have k : ∀ b o, h.get? b = some o → hh.get? b = some o := k₀
  have isT : Looks M hh (isInstance (.ref tp) (.type "tuple")) true := (((Looks.ld hp).andThen .now).andThen (Looks.of_pure isSubtype_tuple_tuple)).keeps k
  obtain ⟨a1, a2⟩ := any_of hx
  have LT' := LT.keeps k
  have hp' := k _ _ hp
  unfold excMatches; refine wpAny_bind (isT.at ?_); dsimp only; rw [if_pos rfl]
  first
    | (refine wpAny_bind (wpAny_seqItems hp' rfl ?_))
    | (refine wpAny_bind (wpAny_bind (wpAny_seqItems hp' rfl (wpAny_pure ?_))))
  dsimp only [Option.getD_some, Option.getD]
  refine wpAny_bind (wpAny_pure ?_)
  refine wpAny_bind (loop_all (fun c m Q' q' => ?_) ?_)
  · obtain ⟨v, ev⟩ := a1 c (by simpa using m)
    refine wpAny_bind (((exm_cls (M := M) X ev).1.keeps k).at ?_)
    first
      | exact wpAny_pure q'
      | (simp only [Bool.not_true, Bool.false_eq_true, if_false]; exact wpAny_pure q')
      | (simp only [Bool.not_true, Bool.false_eq_true, if_false]; exact wpAny_bind (wpAny_pure (wpAny_pure q')))
  · refine wpAny_bind (LT'.at ?_)
    refine wpAny_bind (loop_any (t := fun c => exmOne K cls c == some true) (d := (some true, ())) (fun c m Q' q' => ?_) ?_)
    · obtain ⟨v, ev⟩ := a1 c (by simpa using m)
      refine wpAny_bind (((exm_cls (M := M) X ev).2.keeps k).at ?_)
      rw [ev] at q'
      cases v
      · exact wpAny_pure q'
      · exact wpAny_pure q'
    · rw [show (cs.toArray.toList.any fun c => exmOne K cls c == some true) = b by rw [List.toList_toArray]; exact a2]
      cases b
      · exact wpAny_pure q
      · exact wpAny_pure q
theorem flying_keep {base : Heap} {l : List Env} {e : Addr} {Z : Obj → Prop} {h h' : Heap} (k : ∀ b o, h.get? b = some o → h'.get? b = some o) (f : HandSPX.FlyingZ base l e Z h) : HandSPX.FlyingZ base l e Z h' := by
  obtain ⟨a, b, c, oe, vs, T, oT, ts, he, hz, hd, h1, hnT, hTe, hT, hdT, h3⟩ := f
  exact ⟨fun b o z => k b o (a b o z), b, Heap.FunFrames.of_keeps (fun b o z _ => ⟨o, k b o z, rfl⟩) c, oe, vs, T, oT, ts, k _ _ he, hz, hd, h1, hnT, hTe, k _ _ hT, hdT, h3⟩
end WRT

set_option Elab.async false
set_option linter.all false
set_option maxRecDepth 100000
set_option maxHeartbeats 4000000
namespace WR
open PySem PySem.Spec PyProof.Rows L2

/-! ## 4. what the text's names mean -/
/-- a def of the module, called with n written values and the keywords ks; arr puts them (and the defaults) in the parameters' order -/
structure FnI where
  name : Str
  n : Nat
  ks : List Str
  arr : List V → List V → List V
  sp : Sp
/-- .. where an exception may be handled: it is known which -/
structure HnI where
  name : Str
  n : Nat
  ks : List Str
  arr : List V → List V → List V
  sp : XI → Sp
/-- a method of the class at cls (n, ks, arr: behind self) -/
structure MtI where
  cls : Addr
  name : Str
  n : Nat
  ks : List Str
  arr : List V → List V → List V
  sp : Sp
/-- a class whose instances are made by an own __init__ (n, ks, arr: behind self) -/
structure MkI where
  name : Str
  cls : Addr
  n : Nat
  ks : List Str
  arr : List V → List V → List V
  sp : Sp
/-- an own exception class whose __init__ keeps its one value under f -/
structure XcI where
  name : Str
  C : Addr
  f : Str
/-- a def that makes a lambda: its code object, that one's table, the lambda's full name -/
structure LamI where
  c : Addr
  P : Addr
  q : Str
structure G where
  K : PySem.W.Frag
  fns : List FnI
  cons : List (Str × V)
  blt : List Str
  mts : List MtI
  mks : List MkI
  ats : List (Str × List Addr)
  nes : List (Str × Addr) := []
  xcs : List XcI := []
  tps : List (Str × List V) := []
  hfs : List HnI := []   -- defs that a suite may call
  lam : Option (List Str × LamI) := none   -- the def with these names makes a lambda
  Ts : List (Addr × Str) := []   -- tables of code objects

/-- a tuple of the written part, plain -/
def tupB (K : PySem.W.Frag) (a : Addr) : Bool := match K.lookup a with
  | some o => (match o.cls with
    | .type c => c == "tuple"
    | _ => false) && o.dict.isNone
  | none => false
theorem tupB_ok {K : PySem.W.Frag} {a : Addr} (h : tupB K a = true) : ∃ o, K.lookup a = some o ∧ o.cls = .type "tuple" ∧ o.dict = none := by
  unfold tupB at h
  split at h
  · rename_i o e
    obtain ⟨h1, h2⟩ := Bool.and_eq_true_iff.mp h
    refine ⟨o, e, ?_, Option.isNone_iff_eq_none.mp h2⟩
    split at h1
    · rename_i c ec; rw [ec, beq_iff_eq.mp h1]
    · cases h1
  · cases h
/-- sys.modules stands in the written part, a dict -/
def isDctO (o : Obj) : Bool := match o.data with
  | .dict _ _ => true
  | _ => false
def sysB (K : PySem.W.Frag) : Bool := match K.lookup sysModules with
  | some o => isDctO o
  | none => false
def basics : List String := ["NoneType", "bool", "int", "str", "list", "tuple", "dict"]
/-- what an own class must say, so that != and isinstance ask rightly -/
def ownB (K : PySem.W.Frag) (C : Addr) : Bool := decide (PySem.W.findIn K (.ref C) "__ne__" = some (some (.builtin "object.__ne__"))) && (decide (PySem.W.findIn K (.ref C) "__class__" = some (some (.builtin "object.__class__"))) &&
  (decide (PySem.W.specialIn K (.builtin "object.__class__") "__get__" = some (some (.builtin "getset_descriptor.__get__"))) && (decide (PySem.W.takesIn K (.builtin "object.__class__") = some true) && (decide (PySem.W.mroIn K C (.type "object") = some true) &&
  (decide (PySem.W.kitOne K (.ref C) (.ref C) = some true) && basics.all fun n => decide (PySem.W.kitOne K (.type n) (.ref C) = some false))))))
/-- .. and that they mean it -/
structure GOk (g : G) (P : Program) (w : World) (mg : Str → Option Value) (base : Heap) (lev : Nat) : Prop where
  fns : ∀ f ∈ g.fns, ∃ fa fd ps gf, mg f.name = some (.ref fa) ∧ PySem.W.keepIn g.K (.ref fa) = true ∧ FnW P w g.K mg base (L2N.CX P w) lev fa fd ps f.sp ∧ KBn g.K fd ps f.n f.ks gf f.arr
  cons : ∀ p ∈ g.cons, ∃ u, mg p.1 = some u ∧ RelV p.2 u
  blt : ∀ x ∈ g.blt, mg x = none
  mts : ∀ m ∈ g.mts, ∃ fa fd ps gf, Cls g.K m.cls ∧ Meth g.K m.cls m.name fa ∧ FnW P w g.K mg base (L2N.CX P w) lev fa fd ps m.sp ∧ KBn g.K fd ps (m.n + 1) m.ks gf (fun vs zs => match vs with | v :: r => v :: m.arr r zs | [] => [])
  mks : ∀ m ∈ g.mks, ∃ fa fd ps gf, mg m.name = some (.ref m.cls) ∧ Mk g.K m.cls fa ∧ FnW P w g.K mg base (L2N.CX P w) lev fa fd ps m.sp ∧ KBn g.K fd ps (m.n + 1) m.ks gf (fun vs zs => match vs with | v :: r => v :: m.arr r zs | [] => [])
  ats : ∀ p ∈ g.ats, ∀ C ∈ p.2, Cls g.K C ∧ NoAttr g.K C p.1
  nes : ∀ p ∈ g.nes, ownB g.K p.2 = true
  nec : ∀ p ∈ g.nes, Cls g.K p.2
  sys : sysB g.K = true
  xcs : ∀ x ∈ g.xcs, ∃ b fI fd px, mg x.name = some (.ref x.C) ∧ XcC g.K b x.C ∧ XfC g.K x.C ∧ PySem.W.findIn g.K (.ref x.C) x.f = some none ∧ PySem.W.findIn g.K (.ref x.C) "__init__" = some (some (.ref fI)) ∧
    PySem.W.typeIn g.K (.ref fI) = some (.type "function") ∧ FnOk P w g.K mg base (L2N.CX P w) 1 fI fd ["self", px] (spX b g.K x.f) ∧ Binds g.K fd ["self", px] []
  tps : ∀ p ∈ g.tps, ∃ a, mg p.1 = some (.ref a) ∧ kobj g.K a = some (.tup p.2) ∧ tupB g.K a = true
  hfs : ∀ f ∈ g.hfs, ∃ fa fd ps gf, mg f.name = some (.ref fa) ∧ PySem.W.keepIn g.K (.ref fa) = true ∧ FnHW P w g.K mg base (L2N.CX P w) lev fa fd ps f.sp ∧ KBn g.K fd ps f.n f.ks gf f.arr

/-- what making a lambda asks of its maker's code object and table -/
structure LaOk (X : Cx) (T : List (Addr × Str)) (c P : Addr) (q : Str) : Prop where
  tb : LamX.TabB X.base X.mg c P
  code : X.env.code = .ref c
  qual : q = X.env.qual ++ "<lambda>"
  mem : (P, q) ∈ T
  uni : ∀ p ∈ T, p.1 = P → p.2 = q
/-- where an expression is read -/
structure COk (g : G) (lev : Nat) (X : Cx) (N : List Str) (sc : Scope) (W : WX) : Prop where
  gok : GOk g X.prog X.w X.mg X.base lev
  hK : X.K = g.K
  hN : X.N = N
  hsc : X.env.scope = sc
  nd : X.N.Nodup
  calm : X.calm = true
  tk : L2N.Takes X W
  room : Room (lev + 1) X.A
  gd : X.A.guards = some []
  room2 : Room 2 X.A
  lam : ∀ p, g.lam = some p → p.1 = N → LaOk X g.Ts p.2.c p.2.P p.2.q ∧ Room (lev + 5) X.A
/-- the same without what suites lack -/
structure BOk (g : G) (X : Cx) (N : List Str) (sc : Scope) : Prop where
  gok : ∃ lev, GOk g X.prog X.w X.mg X.base lev
  hK : X.K = g.K
  hN : X.N = N
  hsc : X.env.scope = sc
  nd : X.N.Nodup
  gd : X.A.guards = some []
  un : X.A.units + 200 < cLine
  room : ∃ lev, GOk g X.prog X.w X.mg X.base lev ∧ L2H.RoomH lev X.A
theorem COk.b {g : G} {lev : Nat} {X : Cx} {N : List Str} {sc : Scope} {W : WX} (c : COk g lev X N sc W) : BOk g X N sc := ⟨⟨lev, c.gok⟩, c.hK, c.hN, c.hsc, c.nd, c.gd, by have := c.room.un; omega, lev, c.gok, L2H.roomH_of (c.room.mono (Nat.le_succ _))⟩

theorem COk.hu {g : G} {lev : Nat} {X : Cx} {N : List Str} {sc : Scope} {W : WX} (c : COk g lev X N sc W) : X.A.units + 64 < cLine := c.room.units
theorem COk.hu1 {g : G} {lev : Nat} {X : Cx} {N : List Str} {sc : Scope} {W : WX} (c : COk g lev X N sc W) : X.A.units + 1 < cLine := hu_of c.room
theorem COk.room0 {g : G} {lev : Nat} {X : Cx} {N : List Str} {sc : Scope} {W : WX} (c : COk g lev X N sc W) : Room lev X.A := c.room.mono (Nat.le_succ _)

/-! ## 5. names -/
def ix? : List Str → Str → Option Nat
  | [], _ => none
  | y :: r, x => if decide (y = x) = true then some 0 else (ix? r x).map (· + 1)
theorem ix_get : ∀ {N : List Str} {x : Str} {i : Nat}, ix? N x = some i → N[i]? = some x
  | [], x, i, h => by cases h
  | y :: r, x, i, h => by
    unfold ix? at h
    split at h
    · rename_i e; cases h; simp [of_decide_eq_true e]
    · cases e : ix? r x with
      | none => rw [e] at h; cases h
      | some j => rw [e] at h; cases h; simpa using ix_get e
def plainName (x : Str) : Bool := !(x == ("__debug__" : Str)) && (!(x == ("__classdict__" : Str)) && !decide (x = "__name__"))
theorem plain_d {x : Str} (h : plainName x = true) : (x == ("__debug__" : Str)) = false := by unfold plainName at h; simp only [Bool.and_eq_true, Bool.not_eq_true'] at h; exact h.1
theorem plain_c {x : Str} (h : plainName x = true) : (x == ("__classdict__" : Str)) = false := by unfold plainName at h; simp only [Bool.and_eq_true, Bool.not_eq_true'] at h; exact h.2.1
theorem plain_n {x : Str} (h : plainName x = true) : x ≠ "__name__" := by unfold plainName at h; simp only [Bool.and_eq_true, Bool.not_eq_true', decide_eq_false_iff_not] at h; exact h.2.2

def cVar (i : Nat) : TE := fun σ H Q => match σ[i]? with
  | some (some v) => Q v H
  | _ => False
/-- the built-in classes as values -/
def bltTy (x : Str) : Option String := match bootBuiltins x with
  | some (.type n) => some n
  | _ => none
theorem bltTy_boot {x : Str} {n : String} (h : bltTy x = some n) : bootBuiltins x = some (.type n) := by
  unfold bltTy at h
  split at h
  · rename_i e; cases h; exact e
  · cases h
/-- a tuple that the text's top has written: untracked, wherever it stands -/
def cKT (K : PySem.W.Frag) (vs : List V) : TE := fun _ H Q => ∀ a, H a = none → kobj K a = some (.tup vs) → tupB K a = true → Q (.ref a) H
def tName (g : G) (N : List Str) (sc : Scope) (x : Str) : Option TE :=
  if plainName x = true then
    match sc.names.lookup x with
    | some .local | some .cell | some .free => (ix? N x).map cVar
    | some .globalImplicit => match g.cons.lookup x with
      | some v => some (tC v)
      | none => match g.tps.lookup x with
        | some vs => some (cKT g.K vs)
        | none => if x ∈ g.blt then (bltTy x).map fun n => tC (.ty n) else none
    | _ => none
  else none

section
variable {g : G} {lev : Nat} {X : Cx} {N : List Str} {sc : Scope} {W : WX}
theorem cVar_ok {i : Nat} {x : Str} {pos : Pos} (hN : X.N[i]? = some x) (hv : Vis X.env.scope x) (h1 : plainName x = true) : PE X (.Name x pos) (cVar i) :=
  PE_imp (pe_var hN hv (plain_d h1) (plain_c h1)) fun σ H Q q => by
    unfold cVar at q
    split at q
    · rename_i v e; exact ⟨v, e, q⟩
    · exact q.elim
theorem lookup_mem {α : Type} : ∀ {l : List (Str × α)} {x : Str} {v : α}, l.lookup x = some v → (x, v) ∈ l := fun h => PySem.mem_of_lookup h
theorem tName_ok {x : Str} {pos : Pos} {t : TE} (h : tName g N sc x = some t) (c : BOk g X N sc) : PE X (.Name x pos) t := by
  obtain ⟨lev, gok⟩ := c.gok
  unfold tName at h
  split at h
  · rename_i hp
    have vis : ∀ k, sc.names.lookup x = some k → (k = .local ∨ k = .cell ∨ k = .free) → (ix? N x).map cVar = some t → PE X (.Name x pos) t := fun k hk hkk h => by
      cases e : ix? N x with
      | none => rw [e] at h; cases h
      | some i =>
        rw [e] at h; cases h
        refine cVar_ok (by rw [c.hN]; exact ix_get e) ?_ hp
        unfold Vis
        rw [c.hsc, hk]
        rcases hkk with rfl | rfl | rfl <;> simp
    split at h
    · rename_i e; exact vis _ e (by simp) h
    · rename_i e; exact vis _ e (by simp) h
    · rename_i e; exact vis _ e (by simp) h
    · rename_i e
      have hg : Gl X x := by unfold Gl Env.kindOf; rw [c.hsc]; exact e
      split at h
      · rename_i v ev
        cases h
        obtain ⟨u, h1, h2⟩ := gok.cons _ (lookup_mem ev)
        exact pe_glob hg h1 h2 (plain_d hp)
      · split at h
        · rename_i vs ev
          cases h
          obtain ⟨a, h1, h2, h4⟩ := gok.tps _ (lookup_mem ev)
          refine ⟨fun pins s σ H Q I q => ?_⟩
          have ha : H a = none := by
            have h3 : kobj X.K a = some (.tup vs) := by rw [c.hK]; exact h2
            unfold kobj at h3
            split at h3
            · rename_i o e
              exact (I.bs _ o (I.ok.mod.kin _ _ e)).2
            · cases h3
          exact (pe_glob (v := .ref a) hg h1 rfl (plain_d hp)).run pins s σ H Q I (q a ha h2 h4)
        split at h
        · rename_i hb
          cases e2 : bltTy x with
          | none => rw [e2] at h; cases h
          | some n =>
            rw [e2] at h; cases h
            exact pe_bltn hg (gok.blt x hb) (bltTy_boot e2) (v := .ty n) rfl (plain_n hp) (plain_d hp)
        · cases h
    · cases h
  · cases h
end

/-! ## 6. argument lists -/
def notStar : Expr → Bool
  | .Starred _ _ => false
  | _ => true
theorem star_of {e : Expr} {es : List Expr} {env : Env} (h : notStar e = true) : starEach (e :: es) env = (false, eval e env) :: starEach es env := by
  cases e <;> first | rfl | exact absurd h Bool.false_ne_true
theorem star_all : ∀ {es : List Expr} {env : Env} {pos : Pos}, es.all notStar = true → (backTo pos (starEach es env)).any (·.1) = false
  | [], _, _, _ => rfl
  | e :: es, env, pos, h => by
    rw [List.all_cons, Bool.and_eq_true] at h
    rw [star_of h.1]
    show (false || (backTo pos (starEach es env)).any (·.1)) = false
    rw [star_all h.2]; rfl
theorem star_all' : ∀ {es : List Expr} {env : Env} {pos : Pos}, es.all notStar = true → (backTo pos (starEach es env)).all (fun x => !x.1) = true
  | [], _, _, _ => rfl
  | e :: es, env, pos, h => by
    rw [List.all_cons, Bool.and_eq_true] at h
    rw [star_of h.1]
    show (true && (backTo pos (starEach es env)).all (fun x => !x.1)) = true
    rw [star_all' h.2]; rfl
def kwNames : List Keyword → Option (List Str)
  | [] => some []
  | ⟨some x, _, _⟩ :: r => (kwNames r).map (x :: ·)
  | ⟨none, _, _⟩ :: _ => none
theorem kw_all : ∀ {kws : List Keyword} {ks : List Str} {env : Env} {pos : Pos}, kwNames kws = some ks →
    (backToKw pos (keywordEach kws env)).all (·.1.isSome) = true ∧ (backToKw pos (keywordEach kws env)).any (·.1.isNone) = false ∧ (backToKw pos (keywordEach kws env)).filterMap (·.1) = ks ∧ ks.length = kws.length
  | [], ks, _, _, h => by cases h; exact ⟨rfl, rfl, rfl, rfl⟩
  | ⟨some x, v, p⟩ :: r, ks, env, pos, h => by
    unfold kwNames at h
    cases e : kwNames r with
    | none => rw [e] at h; cases h
    | some l =>
      rw [e] at h; cases h
      obtain ⟨h1, h2, h3, h4⟩ := kw_all (env := env) (pos := pos) e
      refine ⟨?_, ?_, ?_, by simp [h4]⟩
      · show (true && (backToKw pos (keywordEach r env)).all (·.1.isSome)) = true
        rw [h1]; rfl
      · show (false || (backToKw pos (keywordEach r env)).any (·.1.isNone)) = false
        rw [h2]; rfl
      · show x :: (backToKw pos (keywordEach r env)).filterMap (·.1) = x :: l
        rw [h3]
  | ⟨none, _, _⟩ :: _, _, _, _, h => by cases h

/-! ## 7. calls of own defs -/
section
variable {X : Cx} {lev : Nat} {fa : Addr} {fd : FuncData} {ps ks : List Str} {sp : Sp} {x : Str} {n : Nat} {p pos apos : Pos} {es : List Expr} {kws : List Keyword} {t tk : TA} {gf : List Value → List Value → List Value} {arr : List V → List V → List V} {W : WX}
theorem run_own {pins : List (Addr × Obj)} {σ : St} {H : Hp} {s : Shared} {Q : VK} {us ws : List Value} {vs zs : List V} (F : FnW X.prog X.w X.K X.mg X.base (L2N.CX X.prog X.w) lev fa fd ps sp) (hr : Room lev X.A) (gd : X.A.guards = some []) (hb : KBn X.K fd ps n ks gf arr) (tkx : L2N.Takes X W)
    (I : Inv X pins σ H s) (r : Vals vs us) (rz : Vals zs ws) (l1 : vs.length = n) (l2 : zs.length = ks.length) (h : sp (arr vs zs) H Q (fun cls d H' => W cls d σ H')) : wpAny (model X.prog X.w) X.A (call (.ref fa) us (ks.zip ws)) (EP X pins σ Q) X.xe s := by
  have r2 := hb.rel r rz
  refine wpAny_call (codeAny_mono (F.run X.A X.stack s H ⟨us, ks.zip ws⟩ (gf us ws) (arr vs zs) Q _ hr gd I.env0 (hb.to s us ws I.kIn (r.length.symm.trans l1) (rz.length.symm.trans l2)) r2 h) fun r s' hq => ?_)
  cases r with
  | error e => exact tkx e s' (L2N.XE.of_call I (fun _ _ _ h => h) hq)
  | ok fl =>
    cases fl with
    | ret u => exact I.after hq
    | next => exact False.elim hq
    | brk => exact False.elim hq
    | cont => exact False.elim hq
def cCall (sp : Sp) (n m : Nat) (arr : List V → List V → List V) (t tk : TA) (W : WX) : TE := fun σ H Q => t σ H fun vs H1 => tk σ H1 fun zs H2 => vs.length = n ∧ zs.length = m ∧ sp (arr vs zs) H2 Q (fun cls d H' => W cls d σ H')
/-- what is called keeps its arguments in a plain way -/
def Keeps (X : Cx) (f : Value) : Prop := ∀ h : Heap, X.K.In h → ∃ k, (k = Keeper.frame ∨ k = Keeper.machine ∨ k = Keeper.boundFrame) ∧ PySem.W.Looks (model X.prog X.w) h (keeperOf f) k
theorem keeps_ref {f : Value} (hk : PySem.W.keepIn X.K f = true) : Keeps X f := fun h k => PySem.W.keeps_K hk h k
theorem keeps_blt {id : String} : Keeps X (.builtin id) := fun h k => ⟨.machine, by simp, PySem.W.Looks.of_pure rfl⟩
theorem keeps_ty {T : String} : Keeps X (.type T) := fun h k => ⟨.machine, by simp, PySem.W.Looks.of_pure rfl⟩
/-- values of the arguments, then of the keywords, of any call -/
theorem args_of {f : Value} {first : List Value} {pins : List (Addr × Obj)} {s : Shared} {σ : St} {H : Hp} {Q : Value → Shared → Prop} {R : List V → List V → Hp → Prop}
    (hk : Keeps X f) (hnil : es = [] → t = tNil) (hstar : es.all notStar = true) (hkw : kwNames kws = some ks) (ha : PA X es t) (hw : PK X kws tk) (I : Inv X pins σ H s)
    (q : t σ H fun vs H1 => tk σ H1 fun zs H2 => R vs zs H2)
    (hf : ∀ vs zs us ws s2 H2, Inv X pins σ H2 s2 → Vals vs us → Vals zs ws → R vs zs H2 → wpAny (model X.prog X.w) X.A (call f (first ++ us) (ks.zip ws)) Q X.xe s2) :
    wpAny (model X.prog X.w) X.A (callWith pos f first (backTo pos (starEach es X.env)) (backToKw pos (keywordEach kws X.env))) Q X.xe s := by
  obtain ⟨k1, k2, k3, k4⟩ := kw_all (env := X.env) (pos := pos) hkw
  cases es with
  | nil =>
    refine PySem.W.callWith_of (P := X.K.In) (by rw [k2]; rfl) hk (PyProof.Rows.evalArgs_kw2_nil k1 ?_)
    rw [hnil rfl] at q
    refine thn (hw.run pos pins s σ H _ I q) fun ws s2 ⟨zs, H2, I2, rz, q2⟩ => ⟨I2.kIn, ?_⟩
    rw [k3]
    exact hf [] zs [] ws s2 H2 I2 .nil rz q2
  | cons e es =>
    rw [List.all_cons, Bool.and_eq_true] at hstar
    refine PySem.W.callWith_of (P := X.K.In) ?_ hk (PyProof.Rows.evalArgs_kw2 k1 ?_ (star_of hstar.1))
    rotate_left
    · refine thn (ha.run pos pins s σ H _ I q) fun us s1 ⟨vs, H1, I1, r, q1⟩ => ?_
      refine thn (hw.run pos pins s1 σ H1 _ I1 q1) fun ws s2 ⟨zs, H2, I2, rz, q2⟩ => ⟨I2.kIn, ?_⟩
      rw [k3]
      exact hf vs zs us ws s2 H2 I2 r rz q2
    · rw [k2, star_all (by rw [List.all_cons, hstar.1, hstar.2]; rfl)]; rfl

/-- f(..) -/
theorem pe_own (F : FnW X.prog X.w X.K X.mg X.base (L2N.CX X.prog X.w) lev fa fd ps sp) (hr : Room lev X.A) (gd : X.A.guards = some []) (hb : KBn X.K fd ps n ks gf arr) (tkx : L2N.Takes X W) (hg : Gl X x) (hm : X.mg x = some (.ref fa)) (hk : PySem.W.keepIn X.K (.ref fa) = true)
    (hx : plainName x = true) (hnil : es = [] → t = tNil) (hstar : es.all notStar = true) (hkw : kwNames kws = some ks) (ha : PA X es t) (hw : PK X kws tk) : PE X (.Call (.Name x p) es kws pos) (cCall sp n ks.length arr t tk W) := by
  refine ⟨fun pins s σ H Q I h => ?_⟩
  refine wpAny_Call_Name_kw (ld_glob I hg hm ?_ (plain_d hx))
  refine args_of (first := []) (R := fun vs zs H2 => vs.length = n ∧ zs.length = ks.length ∧ sp (arr vs zs) H2 Q (fun cls d H' => W cls d σ H')) (keeps_ref hk) hnil hstar hkw ha hw I h fun vs zs us ws s2 H2 I2 r rz q => ?_
  exact run_own F hr gd hb tkx I2 r rz q.1 q.2.1 q.2.2
/-- .. while an exception is handled -/
theorem run_ownH {pins : List (Addr × Obj)} {σ : St} {H : Hp} {s : Shared} {Q : VK} {us ws : List Value} {vs zs : List V} {hsp : XI → Sp} {xi : XI} (hot : HotB X xi) (F : FnHW X.prog X.w X.K X.mg X.base (L2N.CX X.prog X.w) lev fa fd ps hsp) (hr : L2H.RoomH lev X.A) (gd : X.A.guards = some []) (hb : KBn X.K fd ps n ks gf arr) (tkx : L2N.Takes X W)
    (I : Inv X pins σ H s) (r : Vals vs us) (rz : Vals zs ws) (l1 : vs.length = n) (l2 : zs.length = ks.length) (h : hsp xi (arr vs zs) H Q (fun cls d H' => W cls d σ H')) : wpAny (model X.prog X.w) X.A (call (.ref fa) us (ks.zip ws)) (EP X pins σ Q) X.xe s := by
  have r2 := hb.rel r rz
  refine wpAny_call (codeAny_mono (F.run xi X.A X.stack s H ⟨us, ks.zip ws⟩ (gf us ws) (arr vs zs) Q _ hr gd (hot.to I) I.env0 (hb.to s us ws I.kIn (r.length.symm.trans l1) (rz.length.symm.trans l2)) r2 h) fun r s' hq => ?_)
  cases r with
  | error e => exact tkx e s' (L2N.XE.of_call I (fun _ _ _ h => h) hq)
  | ok fl =>
    cases fl with
    | ret u => exact I.after hq
    | next => exact False.elim hq
    | brk => exact False.elim hq
    | cont => exact False.elim hq
theorem pe_ownH {hsp : XI → Sp} {xi : XI} (hot : HotB X xi) (F : FnHW X.prog X.w X.K X.mg X.base (L2N.CX X.prog X.w) lev fa fd ps hsp) (hr : L2H.RoomH lev X.A) (gd : X.A.guards = some []) (hb : KBn X.K fd ps n ks gf arr) (tkx : L2N.Takes X W) (hg : Gl X x) (hm : X.mg x = some (.ref fa)) (hk : PySem.W.keepIn X.K (.ref fa) = true)
    (hx : plainName x = true) (hnil : es = [] → t = tNil) (hstar : es.all notStar = true) (hkw : kwNames kws = some ks) (ha : PA X es t) (hw : PK X kws tk) : PE X (.Call (.Name x p) es kws pos) (cCall (hsp xi) n ks.length arr t tk W) := by
  refine ⟨fun pins s σ H Q I h => ?_⟩
  refine wpAny_Call_Name_kw (ld_glob I hg hm ?_ (plain_d hx))
  refine args_of (first := []) (R := fun vs zs H2 => vs.length = n ∧ zs.length = ks.length ∧ hsp xi (arr vs zs) H2 Q (fun cls d H' => W cls d σ H')) (keeps_ref hk) hnil hstar hkw ha hw I h fun vs zs us ws s2 H2 I2 r rz q => ?_
  exact run_ownH hot F hr gd hb tkx I2 r rz q.1 q.2.1 q.2.2
end

/-! ## 8. method calls: any receiver -/
def baseOk : Expr → Bool
  | .Call (.Name _ _) [] [] _ => false
  | _ => true
theorem base_of {o : Expr} {a : Str} {env : Env} {w : Sem Value} (h : baseOk o = true) : attributeBase o a env w = w := by
  unfold attributeBase
  split
  · exact absurd h Bool.false_ne_true
  · rfl
section
variable {prog : Program} {w : World} {A : Around} {E : Value → Shared → Prop} {s : Shared}
theorem meth_gen {o : Expr} {name : Str} {apos pos : Pos} {es : List Expr} {kws : List Keyword} {ks : List Str} {env : Env} {Q : Value → Shared → Prop} (hb : baseOk o = true) (hstar : es.all notStar = true) (hkw : kwNames kws = some ks) (hfew : es.length + kws.length < 29)
    (hline : (apos.endLine == pos.line) = true)
    (h : wpAny (model prog w) A (eval o env) (fun ov s₁ => ∀ pl, wpAny (model prog w) A (getMethod ov name pl) (fun fx s₂ => wpAny (model prog w) A (callWith pos fx.1 fx.2 (backTo pos (starEach es env)) (backToKw pos (keywordEach kws env))) Q E s₂) E s₁) E s) :
    wpAny (model prog w) A (eval (.Call (.Attribute o name apos) es kws pos) env) Q E s := by
  rw [arm_eval_Call, base_of hb]
  refine wpAny_bind (wpAny_mono h (fun ov s₁ h₁ => ?_) fun _ _ e => e)
  refine wpAny_bind (wpAny_standAt ?_)
  obtain ⟨k1, k2, k3, k4⟩ := kw_all (env := env) (pos := pos) hkw
  have hform : methodCallForm (es.length + kws.length) (backTo pos (starEach es env)) (backToKw pos (keywordEach kws env)) = true := by
    unfold methodCallForm
    rw [star_all' hstar, k1]
    simp only [Bool.true_and, decide_eq_true_eq]
    split <;> omega
  have hpos : methodCallPos true o env apos pos = pure pos := by unfold methodCallPos; simp [hline]
  unfold methodCall
  rw [hform]
  refine wpAny_bind (wpAny_holding ?_)
  unfold calleeOf
  rw [if_pos rfl]
  refine wpAny_mono (h₁ _) (fun fx s₂ h₂ => ?_) fun _ _ e => e
  exact wpAny_bind (wpAny_of_eq hpos h₂)
end

/-! ### what a built-in's method does -/
/-- the methods of built-in types that are carried: type, name -/
structure BM where
  T : String
  name : Str
  id : String
  r : V → List V → Hp → VK → Prop
/-- .. rightly, where X is -/
structure BMOk (X : Cx) (b : BM) : Prop where
  pa : PlainAttrs b.T
  slot : Slot b.T b.name b.id
  ty : typeOf (.builtin b.id) = pure (.type "method_descriptor")
  run : MtR X b.id b.r
end WR

set_option Elab.async false
set_option linter.all false
set_option maxRecDepth 100000
set_option maxHeartbeats 4000000
namespace WR
open PySem PySem.Spec PyProof.Rows L2
open WRX (XB tailB)
section
variable {X : Cx} {pins : List (Addr × Obj)} {σ : St} {H : Hp} {s : Shared} {a C dx P : Addr} {f : Str} {y : V} {u : Value} {fs : List (Str × V)} {b : XB}
/-- the reading of B.__init__(self, ..) -/
def tXI (b : XB) (K : PySem.W.Frag) (ta : TA) : TE := fun σ H Q => ta σ H fun vs H1 => ∃ (a C : Addr) (ws : List V), vs = .ref a :: ws ∧ ws.length ≤ 1000 ∧ XcC K b C ∧ H1 a = some (exo a C none) ∧ Q .non H1
theorem handed_b (b : XB) : PySem.W.handedIn (.builtin b.ini) = true := by cases b <;> decide +kernel
theorem pe_xinit {B : Str} {p1 p2 pos : Pos} {es : List Expr} {ta : TA} (hg : Gl X B) (hx : plainName B = true) (hm : X.mg B = some (.ref P)) (R : XpC X.K b P) (hstar : es.all notStar = true) (hfew : es.length < 29) (hline : (p2.endLine == pos.line) = true) (hnil : es = [] → ta = tNil) (ha : PA X es ta) :
    PE X (.Call (.Attribute (.Name B p1) "__init__" p2) es [] pos) (tXI b X.K ta) := by
  refine ⟨fun pins s σ H Q I h => ?_⟩
  refine meth_gen (ks := []) rfl hstar rfl hfew hline (ld_glob I hg hm ?_ (plain_d hx))
  intro pl
  obtain ⟨r, e, rfl⟩ := R.ini
  refine PySem.W.method_cls I.kIn R.ga (PySem.W.cls_value I.kIn R.rd e (handed_b _) ?_)
  refine args_of (tk := tNil) (ks := []) (first := []) (R := fun vs zs H2 => zs = [] ∧ ∃ (a C : Addr) (ws : List V), vs = .ref a :: ws ∧ ws.length ≤ 1000 ∧ XcC X.K b C ∧ H2 a = some (exo a C none) ∧ Q .non H2) keeps_blt hnil hstar rfl ha pk_nil (I.tok _)
    (?_ : ta σ H fun vs H1 => tNil σ H1 fun zs H2 => zs = [] ∧ _) ?_
  · have e : (fun (vs : List V) (H1 : Hp) => tNil σ H1 fun zs H2 => zs = [] ∧ ∃ (a C : Addr) (ws : List V), vs = .ref a :: ws ∧ ws.length ≤ 1000 ∧ XcC X.K b C ∧ H2 a = some (exo a C none) ∧ Q .non H2) = fun vs H2 => ∃ (a C : Addr) (ws : List V), vs = .ref a :: ws ∧ ws.length ≤ 1000 ∧ XcC X.K b C ∧ H2 a = some (exo a C none) ∧ Q .non H2 := by
      funext vs H1
      exact propext ⟨fun z => z.2, fun z => ⟨rfl, z⟩⟩
    rw [e]
    exact h
  · rintro vs zs us ws s2 H2 I2 r rz ⟨rfl, a, C, ys, rfl, hl, T, ea, q⟩
    cases rz
    cases r with
    | @cons _ u0 _ ur ra rw' =>
      obtain rfl : u0 = Value.ref a := ra
      refine ox_init T I2 ea ?_ fun s' J => ⟨.non, H2, J, rfl, q⟩
      rw [← Paired.length rw', sizeLine_eq]
      omega
/-- the reading of self.f = e -/
def tXs (b : XB) (K : PySem.W.Frag) (f : Str) (to te : TE) : TS := fun D σ H => te σ H fun y H1 => to σ H1 fun x H2 => ∃ a C : Addr, x = .ref a ∧ XcC K b C ∧ PySem.W.findIn K (.ref C) f = some none ∧
  H2 a = some (exo a C none) ∧ ∀ dx, H2 dx = none → dx ≠ a → D.nx σ (upd (upd H2 dx (exd dx [(f, y)])) a (exo a C (some dx)))
theorem ps_xs {o e : Expr} {to te : TE} {p' pos : Pos} (ho : PE X o to) (he : PE X e te) (hs : swapsWith e (some (.Attribute o f p')) pos.line X.env = pure false) : PS X (.Assign [.Attribute o f p'] e pos) (tXs b X.K f to te) := by
  refine ⟨fun pins s σ H D I h => ?_⟩
  refine plainObj_wpAny_Assign_Attribute (thn (he.run pins s σ H _ I h) fun v s1 z1 => ?_) hs
  obtain ⟨y, H1, I1, r1, q1⟩ := z1
  refine thn (ho.run pins s1 σ H1 _ I1 q1) fun u s2 z2 => ?_
  obtain ⟨x, H2, I2, r2, a, C, rfl, T, hno, ea, q⟩ := z2
  obtain rfl : u = Value.ref a := r2
  exact ox_set T I2 ea hno r1 fun dx s' n ne J => ⟨σ, _, J, q dx n ne⟩
end

/-! ### the __init__ -/
/-- the body of such an __init__: the base's name, the field, what is stored -/
def xBody : List Stmt → Option (Str × Str × Str)
  | [.Expr (.Call (.Attribute (.Name B _) i p2) [.Name s _, .Constant (.str _) _ _] [] pos) _, .Assign [.Attribute (.Name s' _) f _] (.Name x _) _] =>
    if i = "__init__" ∧ s = "self" ∧ s' = "self" ∧ (p2.endLine == pos.line) = true then some (B, f, x) else none
  | _ => none
theorem xBody_ok {l : List Stmt} {B f x : Str} (h : xBody l = some (B, f, x)) : ∃ p1 p2 p3 m j p4 pos p5 p6 p7 p8 p9, l = [.Expr (.Call (.Attribute (.Name B p1) "__init__" p2) [.Name "self" p3, .Constant (.str m) j p4] [] pos) p5, .Assign [.Attribute (.Name "self" p6) f p7] (.Name x p8) p9] ∧ (p2.endLine == pos.line) = true := by
  unfold xBody at h
  split at h
  · split at h
    · rename_i hc
      obtain ⟨rfl, rfl, rfl, hl⟩ := hc
      cases h
      exact ⟨_, _, _, _, _, _, _, _, _, _, _, _, rfl, hl⟩
    · cases h
  · cases h
section
variable {Pr : Program} {w : World} {K : PySem.W.Frag} {mg : Str → Option Value} {base : Heap} {b : XB} {fI P : Addr} {fd : FuncData} {nm qual B f x : Str} {params : Arguments} {body : List Stmt} {scope : Scope} {dvs : List V} {kws : List (Str × V)}
theorem xinit_ok (F : FunD K nm qual params body scope dvs kws fI fd) (S : FnScope ["self", x] ["self", x] scope) (hb : xBody body = some (B, f, x)) (hx : plainName x = true) (hB : plainName B = true) (hsc : scope.names.lookup B = some .globalImplicit) (hm : mg B = some (.ref P)) (R : XpC K b P) :
    FnOk Pr w K mg base (L2N.CX Pr w) 1 fI fd ["self", x] (spX b K f) := by
  obtain ⟨p1, p2, p3, m, j, p4, pos, p5, p6, p7, p8, p9, rfl, hl⟩ := xBody_ok hb
  refine F.ok (k := 0) S (fun vs H Q E z => ?_) fun cdv A outer s H vs Q E hr z => ?_
  · obtain ⟨a, y, C, rfl, _⟩ := z
    rfl
  obtain ⟨a, y, C, rfl, T, hno, ea, q⟩ := z
  have vis : ∀ n : Str, n ∈ (["self", x] : List Str) → Vis scope n := fun n hn => by
    unfold Vis
    rcases S.par n hn with z | z <;> rw [z] <;> simp
  have ix0 : (["self", x] : List Str)[0]? = some ("self" : Str) := rfl
  have ix1 : (["self", x] : List Str)[1]? = some x := rfl
  have self_ : ∀ p, PE (cxOf (L2N.CX Pr w) Pr w K mg base ["self", x] qual scope fI cdv A outer s H E) (.Name "self" p) (cVar 0) := fun p => cVar_ok ix0 (vis _ (List.mem_cons_self ..)) (by decide)
  have x_ : ∀ p, PE (cxOf (L2N.CX Pr w) Pr w K mg base ["self", x] qual scope fI cdv A outer s H E) (.Name x p) (cVar 1) := fun p => cVar_ok ix1 (vis _ (List.mem_cons_of_mem _ (List.mem_cons_self ..))) hx
  have c1 := pe_xinit (X := cxOf (L2N.CX Pr w) Pr w K mg base ["self", x] qual scope fI cdv A outer s H E) (b := b) (P := P) (B := B) (p1 := p1) (p2 := p2) (pos := pos) (es := [.Name "self" p3, .Constant (.str m) j p4])
    hsc hB hm R rfl (by show 2 < 29; decide) hl (fun z => nomatch z) (pa_cons (self_ p3) (pa_cons (pe_str (x := m) (j := j) (pos := p4)) pa_nil (star_of rfl)) (star_of rfl))
  refine ⟨_, pss_cons (ps_expr c1 rfl) (pss_one (ps_xs (b := b) (f := f) (self_ p6) (x_ p8) rfl)), ?_⟩
  refine ⟨a, C, [.str m], rfl, (by show 1 ≤ 1000; decide), T, ea, ?_⟩
  refine ⟨a, C, rfl, T, hno, ea, fun dx n ne => ?_⟩
  exact q dx n ne
end
/-! ### C(e), to be raised -/
def tMkX (C : Addr) (f : Str) (te : TE) : St → Hp → XK → Prop := fun σ H Q => te σ H fun v H1 => ∀ d, H1 d = none → Q (.ref C) (some d) (upd H1 d (.xd [(f, v)]))
section
variable {X : Cx} {b : XB} {C fI : Addr} {fd : FuncData} {x f px : Str} {p pos : Pos} {e : Expr} {te : TE}
theorem xb_facts (b : XB) : ∃ ini bmB, ExcBaseFacts b.mk b.new ini bmB := WRX.xbase b
theorem pmk_x (T : XcC X.K b C) (hno : PySem.W.findIn X.K (.ref C) f = some none) (iC : PySem.W.findIn X.K (.ref C) "__init__" = some (some (.ref fI))) (tI : PySem.W.typeIn X.K (.ref fI) = some (.type "function"))
    (F1 : FnOk X.prog X.w X.K X.mg X.base (L2N.CX X.prog X.w) 1 fI fd ["self", px] (spX b X.K f)) (hr : Room 2 X.A) (hb : Binds X.K fd ["self", px] []) (hg : Gl X x) (hx : plainName x = true) (hm : X.mg x = some (.ref C)) (hst : notStar e = true) (he : PE X e te) :
    L2N.PMk X (.Call (.Name x p) [e] [] pos) (tMkX C f te) := by
  intro pins s σ H Q I h
  obtain ⟨nm, q, N, bs, bm, sn, sub, ab, col, dd, k0, k1, k2, k3, k5, hC, hbm⟩ := T.cls
  obtain ⟨ini, bmB, F⟩ := xb_facts b
  have c1 : bm.contains (.type b.mk) = true := by
    rw [WRX.tail_has hbm]
    cases b <;> decide +kernel
  have c2 : bm.contains (.type "AttributeError") = false := by
    rw [WRX.tail_has hbm]
    cases b <;> decide +kernel
  have c3 : bm.contains (.type "NameError") = false := by
    rw [WRX.tail_has hbm]
    cases b <;> decide +kernel
  refine wpAny_Call_Name_kw (ld_glob I hg hm ?_ (plain_d hx))
  have hpl : (backTo pos (starEach ([] : List Expr) X.env)).any (·.1) = false := rfl
  refine PySem.W.callWith_K (h₀ := X.base) I.ok.mod.kin T.kC ?_ (star_of hst) hpl
  refine thn ((pa_cons he pa_nil (star_of hst)).run pos pins s σ H _ I (show tCons te tNil σ H fun vs H1 => ∃ v, vs = [v] ∧ ∀ d, H1 d = none → Q (.ref C) (some d) (upd H1 d (.xd [(f, v)])) from ?_)) fun us s1 z => ?_
  · have e0 : (fun (v : V) (H1 : Hp) => tNil σ H1 fun xs H2 => ∃ v', v :: xs = [v'] ∧ ∀ d, H2 d = none → Q (.ref C) (some d) (upd H2 d (.xd [(f, v')]))) = fun v H1 => ∀ d, H1 d = none → Q (.ref C) (some d) (upd H1 d (.xd [(f, v)])) := by
      funext v H1
      refine propext ⟨fun z => ?_, fun z => ⟨v, rfl, z⟩⟩
      obtain ⟨v', ev, z⟩ := z
      cases ev
      exact z
    show te σ H (fun v H1 => tNil σ H1 fun xs H2 => ∃ v', v :: xs = [v'] ∧ ∀ d, H2 d = none → Q (.ref C) (some d) (upd H2 d (.xd [(f, v')])))
    rw [e0]
    exact h
  obtain ⟨vs, H1, I1, r1, v, rfl, q1⟩ := z
  obtain ⟨u, rfl, ru⟩ := vals1 r1
  refine ⟨I1.kIn, ?_⟩
  show wpAny _ _ (call (.ref C) [u]) _ _ _
  obtain ⟨hp, g, dr, tk, os⟩ := s1
  have big : hp.objs.size ≤ hp.objs.size + 1 := Nat.le_succ _
  have fresh1 : H1 (hp.objs.size + 1) = none := I1.hok.fresh big
  have keep : ∀ c o, hp.get? c = some o → ((hp.push (PySem.W.kdv_tup [u])).push (PySem.HandSPX.excO C hp.objs.size)).get? c = some o := fun c o z => Heap.get?_push_of_some _ (Heap.get?_push_of_some _ z)
  have new_ : ((hp.push (PySem.W.kdv_tup [u])).push (PySem.HandSPX.excO C hp.objs.size)).get? (hp.objs.size + 1) = some (PySem.HandSPX.excO C hp.objs.size) := by heap_get
  have I2 : Inv X pins σ (upd H1 (hp.objs.size + 1) (exo (hp.objs.size + 1) C none)) ⟨(hp.push (PySem.W.kdv_tup [u])).push (PySem.HandSPX.excO C hp.objs.size), g, dr, tk, os⟩ :=
    I1.laid (t' := tk) (a := hp.objs.size + 1) (o := exo (hp.objs.size + 1) C none) (h' := (hp.push (PySem.W.kdv_tup [u])).push (PySem.HandSPX.excO C hp.objs.size)) keep big (exo_ok new_)
  have r2 : Vals [V.ref (hp.objs.size + 1), v] [Value.ref (hp.objs.size + 1), u] := .cons rfl (.cons ru .nil)
  have hq : spX b X.K f [V.ref (hp.objs.size + 1), v] (upd H1 (hp.objs.size + 1) (exo (hp.objs.size + 1) C none)) (fun z H2 => z = .non ∧ ∃ d, H2 (hp.objs.size + 1) = some (exo (hp.objs.size + 1) C (some d)) ∧ H2 d = some (exd d [(f, v)]) ∧ H1 d = none ∧ Q (.ref C) (some d) (upd (del H2 (hp.objs.size + 1)) d (.xd [(f, v)]))) (fun _ _ _ => False) := by
    refine ⟨_, _, C, rfl, T, hno, upd_same, fun dx n ne => ⟨rfl, dx, upd_same, ?_, ?_, ?_⟩⟩
    · rw [upd_ne ne, upd_same]
    · rw [upd_ne ne] at n
      exact n
    · rw [upd_ne ne] at n
      have same : upd (del (upd (upd (upd H1 (hp.objs.size + 1) (exo (hp.objs.size + 1) C none)) dx (exd dx [(f, v)])) (hp.objs.size + 1) (exo (hp.objs.size + 1) C (some dx))) (hp.objs.size + 1)) dx (.xd [(f, v)]) = upd H1 dx (.xd [(f, v)]) := by
        funext c
        by_cases z : c = dx
        · subst z
          rw [upd_same, upd_same]
        · rw [upd_ne z, upd_ne z]
          by_cases z2 : c = hp.objs.size + 1
          · subst z2
            rw [del_same, fresh1]
          · rw [del_ne z2, upd_ne z2, upd_ne z, upd_ne z2]
      rw [same]
      exact q1 dx n
  have hl : ([Value.ref (hp.objs.size + 1), u] ++ []).length = (["self", px] : List Str).length := rfl
  refine wpAny_call (WRX.xm_call F c1 c2 c3 (I1.kIn _ _ hC) (PySem.W.looks_findIn I1.kIn iC) (fun self => PySem.W.bind_fn I1.kIn self tI) (by show 1 ≤ _; rw [sizeLine_eq]; decide)
    (codeAny_mono (F1.run _ X.stack _ _ ⟨[Value.ref (hp.objs.size + 1), u], []⟩ [Value.ref (hp.objs.size + 1), u] _ _ (fun _ _ _ => False) (hr.make C [u] []) (I2.env0.make C [u] []) (by
      have z := hb _ [Value.ref (hp.objs.size + 1), u] I2.kIn hl
      rw [List.append_nil] at z
      exact z) r2 hq) fun r s' got => ?_))
  cases r with
  | error er => obtain ⟨_, _, _, _, _, _, _, _, _, _, _, _, z⟩ := got; exact z.elim
  | ok fl =>
    cases fl with
    | ret u' =>
      obtain ⟨z, H2, os2, bare2, un2, hok2, rv, rfl, d, ea, ed, hd1, q2⟩ := got
      obtain ⟨h2, g2, d2, t2, os'⟩ := s'
      exact ⟨rv, mk_endN (raises_own T.exC T.tyC) I1 big keep un2 hok2 os2 bare2 ea ed hd1 q2⟩
    | next => exact False.elim got
    | brk => exact False.elim got
    | cont => exact False.elim got
end
end WR

set_option Elab.async false
set_option linter.all false
set_option maxRecDepth 100000
set_option maxHeartbeats 4000000
namespace WRE
open PySem PySem.W PySem.Calls PyProof.Rows
/-! ## isinstance of a caught exception that bears a dict -/
section
variable {P : Program} {w : World} {B : Around} {R : Value → Shared → Prop} {t : Shared} {F : Frag} {e C : Addr} {oe : Obj} {od : Option Obj}
theorem fo_any {nm : Str} {v u : Value} (k1 : (clsIn F C).isSome = true) (k2 : findIn F (.ref C) nm = some (some v)) (k3 : specialIn F v "__get__" = some (some u)) (k4 : takesIn F v = some true) : findObj F C od nm = some (.bind u v) := by
  obtain ⟨cd, k1⟩ := Option.isSome_iff_exists.mp k1
  unfold findObj; rw [k1]
  rw [Option.bind_some]; rw [k2]
  rw [Option.bind_some]; simp [k3, k4]
theorem xc_class {Q : Option Value → Shared → Prop} (c : L2.ExcC F C) (X : F.In t.heap) (I : InstAt t.heap e oe C od) (q : Q (some (.ref C)) { t with toks := t.toks + 1 }) : wpAny (model P w) B (getAttr? (.ref e) "__class__") Q R t := by
  have fo : findObj F C od "__class__" = some (.bind (.builtin "getset_descriptor.__get__") (.builtin "object.__class__")) := fo_any (by
    obtain ⟨cd, z, _⟩ := any_some c.hd; rw [z]; rfl) c.ha c.hn c.ht
  obtain ⟨hp, gs, dd, tk, os⟩ := t
  have T0 := I.type (M := model P w)
  have T1 := looks_findIn (M := model P w) X c.hg
  have T2 := looks_findIn (M := model P w) X c.hk
  have T3 := looks_find (M := model P w) X I fo
  have isB : Looks (model P w) hp (isInstance (.ref e) (.type "BaseException")) true := T0.andThen (looks_subIn X c.hs)
  have z0 : (false && onTheHeap (Value.builtin "BaseException.__getattribute__")) = false := rfl
  have z1 : (onTheHeap (Value.ref C) && Value.builtin "BaseException.__getattribute__" == Value.builtin "object.__getattribute__") = false := by
    rw [show (Value.builtin "BaseException.__getattribute__" == Value.builtin "object.__getattribute__") = false from by decide +kernel]; rfl
  unfold getAttr?; unfold getAttrBy?; unfold getAttrBy
  refine wpAny_bind (wpAny_mkText (wpAny_bind (wpAny_attempt (wpAny_holding (wpAny_bind (T0.at (wpAny_bind (T1.at ?_))))))))
  show wpAny _ _ (if (onTheHeap (Value.ref C) && Value.builtin "BaseException.__getattribute__" == Value.builtin "object.__getattribute__") = true then _ else _) _ _ _
  rw [z1]; rw [if_neg Bool.false_ne_true]
  unfold getAttrByItsOwn; unfold hookBefore
  refine wpAny_bind ?_; rw [if_pos (show onTheHeap (Value.ref C) = true from rfl)]
  refine T2.at ?_; refine wpAny_bind (wpAny_attempt (wpAny_holding ?_))
  unfold callGetattribute; rw [z0]; rw [if_neg Bool.false_ne_true]
  unfold boundAndCalled; rw [PySem.F.excAttr_ValueError.ga.bind (.ref e)]
  refine wpAny_bind (wpAny_pure ?_); show wpAny _ _ (call (.builtin "BaseException.__getattribute__") [.ref e, .str "__class__" tk]) _ _ _
  refine wpAny_call (codeAny_call_builtin PySem.F.excAttr_ValueError.ga.plain PySem.F.entry_bexc_ga ?_); refine @check_slot (model P w) _ _ ⟨hp, gs, dd, tk + 1, os⟩ "BaseException.__getattribute__" "BaseException" "__getattribute__" (.ref e) [.str "__class__" tk] [] _ (by decide +kernel) (by decide +kernel) isB (PySem.F.args_bexc_ga (.ref e) (.str "__class__" tk)) ?_
  unfold Builtin.«object.__getattribute__»; refine wpAny_bind (wpAny_of_eq (a := ((Value.ref e : Value), [Value.str "__class__" tk])) (by first | rfl | (simp only [slotArgs]; rfl)) ?_)
  refine wpAny_bind (wpAny_pure (wpAny_bind (T0.at (wpAny_bind (T3.at ?_)))))
  show wpAny _ _ (holding [Value.builtin "object.__class__"] (call (.builtin "getset_descriptor.__get__") [.builtin "object.__class__", .ref e, .ref C]) >>= ret) _ _ _
  refine wpAny_bind (wpAny_holding (wpAny_call (class_get (s := ⟨hp, gs, dd, tk + 1, os⟩) (ox := oe) (od := od) X I c.hm ?_)))
  refine wpAny_pure ?_; show wpAny _ _ (handedOut (.ref C)) _ _ _
  rw [handedOut_of (v := .ref C) rfl]
  first
    | exact wpAny_pure (wpAny_pure q)
    | exact wpAny_pure q
    | exact wpAny_pure (wpAny_bind (wpAny_pure (wpAny_pure q)))
theorem xc_kit (c : L2.ExcC F C) : KitX F (.ref e) (.ref C) (fun h => InstAt h e oe C od) where
  ty := fun _ _ _ I => I.type
  it := fun _ _ X _ => by
    obtain ⟨cd, z, _⟩ := any_some c.hd
    unfold clsIn at z; split at z
    · rename_i o1
      intro A' Q' E' s' k q
      unfold isType; unfold loadHead
      exact wpAny_bind (wpAny_loadPart (k _ _ (X _ _ o1)) (wpAny_pure q))
    · cases z
  ne := fun h tp dd its n sl X htp => by
    obtain ⟨cd, z, _⟩ := any_some c.hd
    refine Bool.eq_false_iff.mpr fun q => ?_
    have same : C = tp := Value.ref.inj (beq_iff_eq.mp q)
    subst same
    unfold clsIn at z; split at z
    · rename_i o1
      have bad := (X _ _ o1).symm.trans htp
      cases bad
    · cases z
  ca := fun X I k => xc_class c X I k
end
end WRE
namespace WR
open PySem PySem.Spec PyProof.Rows L2
def excB (K : PySem.W.Frag) (D : Addr) : Bool := decide (PySem.W.findIn K (.ref D) "__getattribute__" = some (some (.builtin "BaseException.__getattribute__"))) && (decide (PySem.W.findIn K (.ref D) "__getattr__" = some none) && (decide (PySem.W.subIn K (.ref D) (.type "BaseException") = some true) &&
  (PySem.W.hasDictIn K D && (decide (PySem.W.findIn K (.ref D) "__class__" = some (some (.builtin "object.__class__"))) && (decide (PySem.W.specialIn K (.builtin "object.__class__") "__get__" = some (some (.builtin "getset_descriptor.__get__"))) &&
  (decide (PySem.W.takesIn K (.builtin "object.__class__") = some true) && decide (PySem.W.mroIn K D (.type "object") = some true)))))))
theorem excB_ok {K : PySem.W.Frag} {D : Addr} (h : excB K D = true) : ExcC K D := by
  unfold excB at h
  simp only [Bool.and_eq_true, decide_eq_true_eq] at h
  obtain ⟨h1, h2, h3, h4, h5, h6, h7, h8⟩ := h
  exact ⟨h1, h2, h3, h4, h5, h6, h7, h8⟩
/-- isinstance(e, c), e the exception that the suite holds, its dict tracked -/
def rIsX (g : G) (a : Addr) (cls : Value) (d : Option Addr) : List V → Hp → VK → Prop := fun xs H Q => ∃ x ∈ g.xcs, ∃ (C' dd : Addr) (fs : List (Str × V)) (b : Bool), xs = [.ref a, .ref C'] ∧ cls = .ref x.C ∧ excB g.K x.C = true ∧ d = some dd ∧ H dd = some (.xd fs) ∧ PySem.W.kitOne g.K (.ref x.C) (.ref C') = some b ∧ Q (.bl b) H
theorem instX {X : Cx} {a C' : Addr} {d : Addr} {fs : List (Str × V)} (hot : HotB X (some (a, .ref C', some d))) {pins : List (Addr × Obj)} {σ : L2.St} {H : Hp} {s : Shared} (I : Inv X pins σ H s) (hd : H d = some (.xd fs)) :
    ∃ oe o, PySem.W.InstAt s.heap a oe C' (some o) := by
  obtain ⟨oe, h1, hz, k⟩ := hot.there
  obtain ⟨at_, _⟩ := k I
  obtain ⟨_, vs, hv, _⟩ := h1
  obtain ⟨mA, ns, _⟩ := (show ObjOk X.prog X.w H s.heap d (.xd fs) from I.hok d _ hd)
  obtain ⟨o, ho⟩ : ∃ o, s.heap.get? d = some o := let ⟨o, _, _, z, _⟩ := ns; ⟨o, z⟩
  refine ⟨oe, o, ?_⟩
  obtain ⟨oc, od, oda, osl⟩ := oe
  obtain ⟨z1, z2, _⟩ := hz
  dsimp only at z1 z2 hv at_
  subst z1 hv
  exact ⟨at_, rfl, rfl, by dsimp only; rw [z2]; exact ho⟩
theorem call_isX {g : G} {X : Cx} {a : Addr} {cls : Value} {d : Option Addr} (hK : X.K = g.K) (hot : HotB X (some (a, cls, d))) : CallR X (.builtin "isinstance") (rIsX g a cls d) := by
  intro pins s σ H xs us Q I r h
  obtain ⟨x, hx, C', dd, fs, b, rfl, rfl, hE, rfl, hd, e, q⟩ := h
  obtain ⟨u1, u2, rfl, r1, r2⟩ := vals2 r
  cases (show u1 = Value.ref a from r1)
  cases (show u2 = Value.ref C' from r2)
  obtain ⟨oe, o, J⟩ := instX hot I hd
  exact PySem.W.kia_one (WRE.xc_kit (excB_ok hE)) (by rw [← hK]; exact I.kIn) J e (fun z => nomatch z) fun tk => ⟨.bl b, H, I.kept (t' := tk) fun _ _ z => z, rfl, q⟩
/-- isinstance(e, (c, ..)) -/
def rIsXT (g : G) (a : Addr) (cls : Value) (d : Option Addr) : List V → Hp → VK → Prop := fun xs H Q => ∃ x ∈ g.xcs, ∃ (T dd : Addr) (cs : List Addr) (fs : List (Str × V)) (b : Bool), xs = [.ref a, .ref T] ∧ SqT g.K H T (cs.map V.ref) ∧ cls = .ref x.C ∧ excB g.K x.C = true ∧ d = some dd ∧ H dd = some (.xd fs) ∧
  PySem.W.kitAny g.K (.ref x.C) (cs.map Value.ref) = some b ∧ Q (.bl b) H
end WR

set_option Elab.async false
set_option linter.all false
set_option maxRecDepth 100000
set_option maxHeartbeats 4000000
/-! x in range(..), x no whole number -/
namespace WR
open PySem PySem.Spec PyProof.Rows L2
theorem plain_rg_loop : plainId "range.__contains__.loop" = true := by decide +kernel
theorem entry_rg_loop : entryFor table "range.__contains__.loop" = some Builtin.«range.__contains__.loop» := entryFor_of_tree (by kernel_rfl)
theorem rg_loop (r : Addr) (a b : Int) (t u v : Tok) (x : Value) (k : Nat) : ∀ i : Nat, (b - a).toNat - i = k →
    Meets (Builtin.«range.__contains__.loop» ⟨[.ref r, x, rawInt i], []⟩) (fun A R s => s.heap.get? r = some { cls := .type "range", dict := none, data := .fields #[.int a t, .int b u, .int 1 v], slots := #[] } ∧ (∀ (j : Int) (tk : Tok) (s' : Shared), SeqAt.EqAt A.in1 s' (.int j tk) x false) ∧ ∀ tk, R (.ok (.ret (.bool false))) { s with toks := tk }) := by
  induction k with
  | zero =>
    intro i hk prog w A R s h
    obtain ⟨hp, g, d, tk, os⟩ := s; obtain ⟨hl, he, h⟩ := h
    wp_walk
    have : (i : Int) ≥ Builtin.Range.rangeSize a b 1 := by rw [rangeSize_one]; split <;> omega
    rw [if_pos this]
    wp_walk
    exact h _
  | succ k ih =>
    intro i hk prog w A R s h
    obtain ⟨hp, g, d, tk, os⟩ := s; obtain ⟨hl, he, h⟩ := h
    wp_walk
    have : ¬ (i : Int) ≥ Builtin.Range.rangeSize a b 1 := by rw [rangeSize_one]; split <;> omega
    rw [if_neg this]
    refine wpAny_bind (wpAny_mkInt ?_)
    refine wpAny_bind (he _ _ _ prog w _ _ ?_)
    wp_walk
    have hc : ((i : Int) + 1) = ((i + 1 : Nat) : Int) := by push_cast; rfl
    rw [hc]
    exact ⟨plainId_quiet plain_rg_loop _, codeAny_builtin entry_rg_loop (by
      rw [Around.under_plainId plain_rg_loop _]
      exact ih (i + 1) (by omega) prog w A R _ ⟨hl, he, fun tk => h tk⟩)⟩
theorem rg_cont (r : Addr) (a b : Int) (t u v : Tok) (x : Value) (hx : Builtin.Range.rangeExactInt? x = none) :
    Meets (Builtin.«range.__contains__» ⟨[.ref r, x], []⟩) (fun A R s => s.heap.get? r = some { cls := .type "range", dict := none, data := .fields #[.int a t, .int b u, .int 1 v], slots := #[] } ∧ (∀ (j : Int) (tk : Tok) (s' : Shared), SeqAt.EqAt A.in1 s' (.int j tk) x false) ∧ ∀ tk, R (.ok (.ret (.bool false))) { s with toks := tk }) := by
  intro prog w A R s h
  obtain ⟨hp, g, d, tk, os⟩ := s; obtain ⟨hl, he, h⟩ := h
  wp_walk
  rw [hx]
  wp_walk
  exact ⟨plainId_quiet plain_rg_loop _, codeAny_builtin entry_rg_loop (by
    rw [Around.under_plainId plain_rg_loop _]
    exact rg_loop r a b t u v x _ 0 rfl prog w A R _ ⟨hl, he, fun tk => h tk⟩)⟩
theorem rg_contB (r : Addr) (a b : Int) (t u v : Tok) (k : Bool) :
    Meets (Builtin.«range.__contains__» ⟨[.ref r, .bool k], []⟩) (fun _ R s => s.heap.get? r = some { cls := .type "range", dict := none, data := .fields #[.int a t, .int b u, .int 1 v], slots := #[] } ∧ R (.ok (.ret (.bool (Builtin.Range.rangePlace? a b 1 (if k then 1 else 0)).isSome))) s) :=
  .of_wp fun prog w A R s h => by obtain ⟨hp, g, d, tk, os⟩ := s; obtain ⟨hl, h⟩ := h; wp_walk; exact ⟨_, rfl, h⟩
/-- what x in range(lo, hi) tells -/
def inRg (x : V) (lo hi : Int) : Option Bool := match x with
  | .int i => some (decide (lo ≤ i ∧ i < hi))
  | .bl k => some (decide (lo ≤ (if k then 1 else 0) ∧ (if k then (1 : Int) else 0) < hi))
  | .non => some false
  | .str _ => some false
  | _ => none
section
variable {X : Cx}
theorem rg_at {A : Around} {s : Shared} {r : Addr} {lo hi : Int} {t1 t2 t3 : Tok} {x : V} {v : Value} {b : Bool} {prog : Program} {w : World} {E : Value → Shared → Prop} {Q : Bool → Shared → Prop} (ho : s.heap.get? r = some { cls := .type "range", dict := none, data := .fields #[.int lo t1, .int hi t2, .int 1 t3], slots := #[] }) (rx : RelV x v) (h : inRg x lo hi = some b) (q : ∀ tk, Q b { s with toks := tk }) :
    wpAny (model prog w) A (contains (.ref r) v) Q E s := by
  cases x with
  | int i =>
    obtain ⟨k, rfl⟩ := rx
    cases h
    refine wpAny_contains_slot (T := "range") ⟨_, ho, rfl⟩ F.slot_range_contains (call_meets F.slot_range_contains ⟨_, ho, rfl⟩ F.entry_range_contains (F.args_range_contains_2 _ _) (q_contains r lo hi i t1 t2 t3 k) ⟨ho, wpAny_truthy_bool ?_⟩)
    rw [place1]; exact q s.toks
  | bl k =>
    obtain rfl : v = .bool k := rx
    cases h
    refine wpAny_contains_slot (T := "range") ⟨_, ho, rfl⟩ F.slot_range_contains (call_meets F.slot_range_contains ⟨_, ho, rfl⟩ F.entry_range_contains (F.args_range_contains_2 _ _) (rg_contB r lo hi t1 t2 t3 k) ⟨ho, wpAny_truthy_bool ?_⟩)
    rw [place1]; exact q s.toks
  | non =>
    obtain rfl : v = .none := rx
    cases h
    refine wpAny_contains_slot (T := "range") ⟨_, ho, rfl⟩ F.slot_range_contains (call_meets F.slot_range_contains ⟨_, ho, rfl⟩ F.entry_range_contains (F.args_range_contains_2 _ _) (rg_cont r lo hi t1 t2 t3 .none rfl) ⟨ho, fun j tk s' => ?_, fun tk => wpAny_truthy_bool (q tk)⟩)
    exact eqAt_V (y := .int j) (x := .non) ⟨tk, rfl⟩ rfl rfl rfl
  | str z =>
    obtain ⟨k, rfl⟩ := rx
    cases h
    refine wpAny_contains_slot (T := "range") ⟨_, ho, rfl⟩ F.slot_range_contains (call_meets F.slot_range_contains ⟨_, ho, rfl⟩ F.entry_range_contains (F.args_range_contains_2 _ _) (rg_cont r lo hi t1 t2 t3 (.str z k) rfl) ⟨ho, fun j tk s' => ?_, fun tk => wpAny_truthy_bool (q tk)⟩)
    exact eqAt_V (y := .int j) (x := .str z) ⟨tk, rfl⟩ ⟨k, rfl⟩ rfl rfl
  | _ => cases h
theorem rng_obj {pins : List (Addr × Obj)} {s : Shared} {σ : St} {H : Hp} {a : Addr} {lo hi : Int} (I : Inv X pins σ H s) (h : Rd H a (.rng lo hi)) : ∃ t1 t2 t3, s.heap.get? a = some { cls := .type "range", dict := none, data := .fields #[.int lo t1, .int hi t2, .int 1 t3], slots := #[] } := by
  rcases h with h | ⟨o, h⟩
  · exact I.hok a _ h
  · exact (I.hok a _ h).2
theorem op_in_rgA : OpR X (compareOp .In) (fun x y H Q => ∃ a lo hi b, y = V.ref a ∧ Rd H a (.rng lo hi) ∧ inRg x lo hi = some b ∧ Q (.bl b) H) := by
  intro pins s σ H x y v u Q I rx ry h
  obtain ⟨a, lo, hi, b, rfl, ha, hb, q⟩ := h
  obtain rfl : u = Value.ref a := ry
  obtain ⟨t1, t2, t3, ho⟩ := rng_obj I ha
  show wpAny _ _ (do return Value.bool (← contains (Value.ref a) v)) _ _ s
  exact wpAny_bind (rg_at ho rx hb fun tk => wpAny_pure ⟨.bl _, H, I.kept (t' := tk) fun _ _ e => e, rfl, q⟩)
theorem op_notIn_rgA : OpR X (compareOp .NotIn) (fun x y H Q => ∃ a lo hi b, y = V.ref a ∧ Rd H a (.rng lo hi) ∧ inRg x lo hi = some b ∧ Q (.bl (!b)) H) := by
  intro pins s σ H x y v u Q I rx ry h
  obtain ⟨a, lo, hi, b, rfl, ha, hb, q⟩ := h
  obtain rfl : u = Value.ref a := ry
  obtain ⟨t1, t2, t3, ho⟩ := rng_obj I ha
  show wpAny _ _ (do return Value.bool (!(← contains (Value.ref a) v))) _ _ s
  exact wpAny_bind (rg_at ho rx hb fun tk => wpAny_pure ⟨.bl _, H, I.kept (t' := tk) fun _ _ e => e, rfl, q⟩)
/-- list(r), r a range -/
theorem call_list_rng (hc : X.calm = true) : CallR X (.type "list") (fun xs H Q => ∃ a lo hi, xs = [V.ref a] ∧ Rd H a (.rng lo hi) ∧ RgOk lo hi ∧ ∀ q, H q = none → Q (.ref q) (upd H q (.lst (rgV lo hi)))) := by
  intro pins s σ H xs us Q I r h
  obtain ⟨a, lo, hi, rfl, ha, ⟨b1, b2, b3, b4, b5⟩, q⟩ := h
  rw [Vals.ref1 r]
  obtain ⟨t1, t2, t3, ho⟩ := rng_obj I ha
  refine call_list_range (n := (hi - lo).toNat) (I.ok.hd hc) ho (small_one b1 b2 b3 b4) (rangeSize_nat lo hi) b5 fun h' tk acc c' hk e' hii => ?_
  refine ⟨.ref s.heap.objs.size, upd H s.heap.objs.size (.lst (rgV lo hi)), I.laid hk (Nat.le_refl _) (show ObjOk X.prog X.w _ _ _ (.lst (rgV lo hi)) from ⟨?_, acc.toList, c', vals_rg hii, ?_⟩), rfl, q _ (I.hok.fresh (Nat.le_refl _))⟩
  · rw [rgV_length, sizeLine_eq]; omega
  · rw [Array.toArray_toList]; exact e'
end
end WR

set_option Elab.async false
set_option linter.all false
set_option maxRecDepth 100000
set_option maxHeartbeats 2000000
/-! lists of mixed things (dicts among them): `in`, `not in`, `!=` of copies -/
namespace WR
open PySem PySem.Spec PyProof.Rows L2
theorem strEq_dict (b : Str) (u : Tok) (l : Addr) (dt : Data) (dd : Option Addr) (sl : Array (Option Value)) (es : Array DictEntry) (ep : Nat) (hd : dt = .dict es ep) :
    Meets (Builtin.«str.__eq__» ⟨[.str b u, .ref l], []⟩) (fun _ R s => s.heap.get? l = some { cls := .type "dict", dict := dd, data := dt, slots := sl } ∧ R (.ok (.ret .notImplemented)) s) := by
  subst hd
  exact .of_wp fun prog w A R s h => by obtain ⟨hp, g, d, tk, os⟩ := s; obtain ⟨hl, h⟩ := h; wp_walk using wpAny_loadPart' hl, wpAny_load hl; exact ⟨_, rfl, h⟩
theorem dictEq_str (b : Str) (u : Tok) (l : Addr) (dd : Option Addr) (sl : Array (Option Value)) (es : Array DictEntry) (ep : Nat) :
    Meets (Builtin.«dict.__eq__» ⟨[.ref l, .str b u], []⟩) (fun _ R s => s.heap.get? l = some { cls := .type "dict", dict := dd, data := .dict es ep, slots := sl } ∧ R (.ok (.ret .notImplemented)) s) :=
  .of_wp fun prog w A R s h => by obtain ⟨hp, g, d, tk, os⟩ := s; obtain ⟨hl, h⟩ := h; have f1 := F.sub_str_dict; wp_walk using wpAny_loadPart' hl, wpAny_load hl; exact ⟨_, rfl, h⟩
section
variable {A : Around} {s : Shared}
open PySem.SeqAt in
theorem rc_sd {l : Addr} {o : Obj} {es : Array DictEntry} {ep : Nat} (b : Str) (u : Tok) (ho : s.heap.get? l = some o) (hc : o.cls = .type "dict") (hd : o.data = .dict es ep) (hu : A.units < cLine) : RcAt A s (.str b u) (.ref l) false := fun prog w E Q h => by
  obtain ⟨cls, dd, data, sl⟩ := o
  simp only at hc hd
  subst hc hd
  exact rc_eq_decline_or (k := false) (typeIs_str s b u) ⟨_, ho, rfl⟩ (by decide) F.sub_dict_str F.slot_str_eq F.slot_dict_eq_refl
    (fun _ hq => call_meets F.slot_str_eq (typeIs_str s b u) F.entry_str_eq (F.args_str_eq_2 _ _) (strEq_dict b u l _ dd sl es ep rfl) ⟨ho, hq⟩)
    (fun _ hq => call_meets F.slot_dict_eq_refl ⟨_, ho, rfl⟩ F.entry_dict_eq (F.args_dict_eq_2 _ _) (dictEq_str b u l dd sl es ep) ⟨ho, hq⟩)
    (fun _ hq => wpAny_of_eq (rfl : isSame (.str b u) (.ref l) = pure false) hq) (.inr hu) h
open PySem.SeqAt in
theorem rc_ds {l : Addr} {o : Obj} {es : Array DictEntry} {ep : Nat} (b : Str) (u : Tok) (ho : s.heap.get? l = some o) (hc : o.cls = .type "dict") (hd : o.data = .dict es ep) (hu : A.units < cLine) : RcAt A s (.ref l) (.str b u) false := fun prog w E Q h => by
  obtain ⟨cls, dd, data, sl⟩ := o
  simp only at hc hd
  subst hc hd
  exact rc_eq_decline_or (k := false) ⟨_, ho, rfl⟩ (typeIs_str s b u) (by decide) F.sub_str_dict F.slot_dict_eq F.slot_str_eq_refl
    (fun _ hq => call_meets F.slot_dict_eq ⟨_, ho, rfl⟩ F.entry_dict_eq (F.args_dict_eq_2 _ _) (dictEq_str b u l dd sl es ep) ⟨ho, hq⟩)
    (fun _ hq => call_meets F.slot_str_eq_refl (typeIs_str s b u) F.entry_str_eq (F.args_str_eq_2 _ _) (strEq_dict b u l _ dd sl es ep rfl) ⟨ho, hq⟩)
    (fun _ hq => wpAny_of_eq (rfl : isSame (.ref l) (.str b u) = pure false) hq) (.inr hu) h
theorem eq_sd {l : Addr} {o : Obj} {es : Array DictEntry} {ep : Nat} (b : Str) (u : Tok) (ho : s.heap.get? l = some o) (hc : o.cls = .type "dict") (hd : o.data = .dict es ep) (hu : A.units < cLine) : SeqAt.EqAt A s (.str b u) (.ref l) false := fun prog w E Q h => by
  unfold eqBool
  refine wpAny_holding (wpAny_ite_split (fun hab => absurd (eq_of_beq hab) nofun) fun _ => ?_)
  exact wpAny_bind (rc_sd b u ho hc hd hu prog w E _ (wpAny_truthy_bool h))
theorem eq_ds {l : Addr} {o : Obj} {es : Array DictEntry} {ep : Nat} (b : Str) (u : Tok) (ho : s.heap.get? l = some o) (hc : o.cls = .type "dict") (hd : o.data = .dict es ep) (hu : A.units < cLine) : SeqAt.EqAt A s (.ref l) (.str b u) false := fun prog w E Q h => by
  unfold eqBool
  refine wpAny_holding (wpAny_ite_split (fun hab => absurd (eq_of_beq hab) nofun) fun _ => ?_)
  exact wpAny_bind (rc_ds b u ho hc hd hu prog w E _ (wpAny_truthy_bool h))
end
/-- a scalar, a list, a tuple, a dict -/
def MxV (K : PySem.W.Frag) (H : Hp) (v : V) : Prop := v = .non ∨ (∃ b, v = .bl b) ∨ (∃ i, v = .int i) ∨ (∃ s, v = .str s) ∨ (∃ a xs, v = .ref a ∧ (SqL K H a xs ∨ SqT K H a xs)) ∨ ∃ a kvs, v = .ref a ∧ H a = some (.dK kvs)
def eV (x y : Value) : Bool := match y, x with
  | .str a _, .str b _ => a == b
  | _, _ => false
section
variable {X : Cx} {pins : List (Addr × Obj)} {σ : St} {H : Hp} {s : Shared} {A : Around}
/-- one of the two is a text -/
theorem mx_eq {x y : V} {u v : Value} (hu : A.units < cLine) (I : Inv X pins σ H s) (ry : RelV y v) (rx : RelV x u) (h : (∃ t, x = .str t) ∧ MxV X.K H y ∨ (∃ t, y = .str t) ∧ MxV X.K H x) : SeqAt.EqAt A s v u (eV u v) ∧ eV u v = decide (y = x) := by
  rcases h with ⟨⟨t, rfl⟩, h⟩ | ⟨⟨t, rfl⟩, h⟩
  · obtain ⟨k, rfl⟩ := rx
    rcases h with rfl | ⟨b, rfl⟩ | ⟨i, rfl⟩ | ⟨z, rfl⟩ | ⟨a, xs, rfl, h⟩ | ⟨a, kvs, rfl, h⟩
    · cases ry
      exact ⟨SeqAt.EqAt.none_str _ _, rfl⟩
    · cases ry
      exact ⟨SeqAt.EqAt.bool_str _ _ _, rfl⟩
    · obtain ⟨k2, rfl⟩ := ry
      exact ⟨SeqAt.EqAt.int_str _ _ _ _, rfl⟩
    · obtain ⟨k2, rfl⟩ := ry
      refine ⟨SeqAt.EqAt.str_str _ _ _ _, ?_⟩
      show (z == t) = _
      by_cases e : z = t
      · subst e; simp
      · simp [e]
    · cases ry
      rcases h with h | h
      · obtain ⟨its, rv, p, hz⟩ := I.list h
        exact ⟨SeqAt.EqAt.list_str _ _ p.isList hu, rfl⟩
      · obtain ⟨its, rv, p, hz⟩ := I.tuple h
        exact ⟨SeqAt.EqAt.tuple_str _ _ p hu, rfl⟩
    · cases ry
      obtain ⟨hz, hs0, vs, kv, hdo⟩ := I.hok a _ h
      obtain ⟨ep, hat⟩ := hdo.dictAt
      obtain ⟨od, es, hod, hcd, hdd, _⟩ := hat
      exact ⟨eq_ds _ _ hod hcd.1 hdd hu, rfl⟩
  · obtain ⟨k, rfl⟩ := ry
    rcases h with rfl | ⟨b, rfl⟩ | ⟨i, rfl⟩ | ⟨z, rfl⟩ | ⟨a, xs, rfl, h⟩ | ⟨a, kvs, rfl, h⟩
    · cases rx
      exact ⟨SeqAt.EqAt.str_none _ _, rfl⟩
    · cases rx
      exact ⟨SeqAt.EqAt.str_bool _ _ _, rfl⟩
    · obtain ⟨k2, rfl⟩ := rx
      exact ⟨SeqAt.EqAt.str_int _ _ _ _, rfl⟩
    · obtain ⟨k2, rfl⟩ := rx
      refine ⟨SeqAt.EqAt.str_str _ _ _ _, ?_⟩
      show (t == z) = _
      by_cases e : t = z
      · subst e; simp
      · simp [e]
    · cases rx
      rcases h with h | h
      · obtain ⟨its, rv, p, hz⟩ := I.list h
        exact ⟨SeqAt.EqAt.str_list _ _ p.isList hu, rfl⟩
      · obtain ⟨its, rv, p, hz⟩ := I.tuple h
        exact ⟨SeqAt.EqAt.str_tuple _ _ p hu, rfl⟩
    · cases rx
      obtain ⟨hz, hs0, vs, kv, hdo⟩ := I.hok a _ h
      obtain ⟨ep, hat⟩ := hdo.dictAt
      obtain ⟨od, es, hod, hcd, hdd, _⟩ := hat
      exact ⟨eq_sd _ _ hod hcd.1 hdd hu, rfl⟩
theorem mx_any {x : V} {u : Value} (hu : A.units < cLine) (I : Inv X pins σ H s) (rx : RelV x u) : ∀ {xs : List V} {us : List Value}, Vals xs us → (∀ y ∈ xs, (∃ t, x = .str t) ∧ MxV X.K H y ∨ (∃ t, y = .str t) ∧ MxV X.K H x) →
    (∀ v ∈ us, SeqAt.EqAt A s v u (eV u v)) ∧ us.any (eV u) = xs.any fun y => decide (y = x)
  | [], _, .nil, _ => ⟨(fun v hv => nomatch hv), rfl⟩
  | y :: ys, _, .cons r t, h => by
    obtain ⟨a1, a2⟩ := mx_eq (A := A) hu I r rx (h y List.mem_cons_self)
    obtain ⟨b1, b2⟩ := mx_any hu I rx t fun z hz => h z (List.mem_cons_of_mem _ hz)
    refine ⟨fun v hv => ?_, by rw [List.any_cons, List.any_cons, a2, b2]⟩
    rcases List.mem_cons.mp hv with rfl | hv
    · exact a1
    · exact b1 v hv
/-- x in l, x not in l: one of the two sides is of texts -/
def rInM (K : PySem.W.Frag) (neg : Bool) : R2 := fun x y H Q => ∃ p xs, y = .ref p ∧ SqL K H p xs ∧ (∀ z ∈ xs, (∃ t, x = .str t) ∧ MxV K H z ∨ (∃ t, z = .str t) ∧ MxV K H x) ∧ Q (.bl (neg ^^ xs.any fun z => decide (z = x))) H
theorem op_inM (hu : X.A.in1.units < cLine) : OpR X (compareOp .In) (rInM X.K false) := by
  intro pins s σ H x y v u Q I rx ry h
  obtain ⟨p, xs, rfl, hp, hm, q⟩ := h
  cases ry
  obtain ⟨its, rv, pl, hz⟩ := I.list hp
  obtain ⟨a, b⟩ := mx_any (A := X.A.in1) hu I rx rv hm
  refine SeqAt.in_listAt (eV v) pl.isList (fun y hy => a y (by simpa using hy)) ⟨.bl _, H, I, rfl, ?_⟩
  rw [List.any_toArray, b]
  simpa using q
theorem op_notInM (hu : X.A.in1.units < cLine) : OpR X (compareOp .NotIn) (rInM X.K true) := by
  intro pins s σ H x y v u Q I rx ry h
  obtain ⟨p, xs, rfl, hp, hm, q⟩ := h
  cases ry
  obtain ⟨its, rv, pl, hz⟩ := I.list hp
  obtain ⟨a, b⟩ := mx_any (A := X.A.in1) hu I rx rv hm
  refine SeqAt.notIn_listAt (eV v) pl.isList (fun y hy => a y (by simpa using hy)) ⟨.bl _, H, I, rfl, ?_⟩
  rw [List.any_toArray, b]
  simpa using q
/-- a list != a copy of it: the very same objects and texts, none of it a number (which may be made anew) but where it is plain -/
theorem same_eq {z : V} {u v : Value} (ru : RelV z u) (rv : RelV z v) (h : z = .non ∨ (∃ b, z = .bl b) ∨ (∃ i, z = .int i) ∨ (∃ s, z = .str s) ∨ ∃ a, z = .ref a) : SeqAt.EqAt A s u v true := by
  rcases h with rfl | ⟨b, rfl⟩ | ⟨i, rfl⟩ | ⟨t, rfl⟩ | ⟨a, rfl⟩
  · cases ru; cases rv; exact SeqAt.EqAt.same _
  · cases ru; cases rv; exact SeqAt.EqAt.same _
  · obtain ⟨k1, rfl⟩ := ru
    obtain ⟨k2, rfl⟩ := rv
    have := SeqAt.EqAt.int_int (A := A) (s := s) i k1 i k2
    rwa [beq_self_eq_true] at this
  · obtain ⟨k1, rfl⟩ := ru
    obtain ⟨k2, rfl⟩ := rv
    have := SeqAt.EqAt.str_str (A := A) (s := s) t k1 t k2
    rwa [beq_self_eq_true] at this
  · cases ru; cases rv; exact SeqAt.EqAt.same _
def rNeM (K : PySem.W.Frag) : R2 := fun x y H Q => ∃ p q xs, x = .ref p ∧ y = .ref q ∧ SqL K H p xs ∧ SqL K H q xs ∧ (∀ z ∈ xs, z = .non ∨ (∃ b, z = .bl b) ∨ (∃ i, z = .int i) ∨ (∃ s, z = .str s) ∨ ∃ a, z = .ref a) ∧ Q (.bl false) H
theorem op_neM (hu : X.A.units < cLine) : OpR X (compareOp .NotEq) (rNeM X.K) := by
  intro pins s σ H x y v u Q I rx ry h
  obtain ⟨p, q, xs, rfl, rfl, hp, hq, hm, qq⟩ := h
  cases rx
  cases ry
  obtain ⟨us, r1, p1, _⟩ := I.list hp
  obtain ⟨vs, r2, p2, _⟩ := I.list hq
  have l1 := r1.length
  have l2 := r2.length
  have key := SeqAt.RcNeAt.lists (A := X.A) (s := s) (e := fun _ => true) p1.isList p2.isList (by simp; omega) hu (fun j h1 h2 => by
    have hj : j < xs.length := by simp at h1; omega
    obtain ⟨a, ha, ra⟩ := r1.get (List.getElem?_eq_getElem hj)
    obtain ⟨b, hb, rb⟩ := r2.get (List.getElem?_eq_getElem hj)
    have ea : us.toArray[j] = a := by
      have : us.toArray[j]? = some a := by simpa using ha
      rw [Array.getElem?_eq_getElem h1] at this
      exact Option.some.inj this
    have eb : vs.toArray[j] = b := by
      have : vs.toArray[j]? = some b := by simpa using hb
      rw [Array.getElem?_eq_getElem h2] at this
      exact Option.some.inj this
    rw [ea, eb]
    exact same_eq ra rb (hm _ (List.getElem_mem hj)))
  have e : ((List.range us.toArray.size).all fun _ => true) = true := by
    rw [List.all_eq_true]
    intro _ _
    rfl
  rw [e] at key
  exact key X.prog X.w _ _ ⟨.bl false, H, I, rfl, qq⟩
end
end WR

set_option Elab.async false
set_option linter.all false
set_option maxRecDepth 100000
set_option maxHeartbeats 4000000
namespace WR
open PySem PySem.Spec PyProof.Rows L2

/-! ## 9. subscripts, slices, in -/
def keyOf : V → Option Key
  | .int i => some (.inl i)
  | .str s => some (.inr s)
  | _ => none
theorem keyOf_kV {y : V} {k : Key} (h : keyOf y = some k) : y = kV k := by
  cases y <;> cases h <;> rfl
/-- a dict's look at a key -/
def oGet (H : Hp) (p : Addr) (y : V) (R : Option V → Prop) : Prop := match H p with
  | some (.dK kvs) | some (.frz _ (.dK kvs)) => (match keyOf y with
      | some k => R (valV kvs k)
      | none => False)
  | some (.dT kvs) | some (.frz _ (.dT kvs)) => ∃ k b, y = .ref b ∧ H b = some (.tup (k.map kV)) ∧ R (valV kvs k)
  | _ => False
theorem oGet_dget {H : Hp} {p : Addr} {y : V} {R : Option V → Prop} (h : oGet H p y R) : ∃ o, DGet H p y o ∧ R o := by
  unfold oGet at h
  split at h
  · rename_i kvs e
    split at h
    · rename_i k ek
      exact ⟨_, .inl ⟨kvs, k, .inl e, keyOf_kV ek, rfl⟩, h⟩
    · exact h.elim
  · rename_i ob kvs e
    split at h
    · rename_i k ek
      exact ⟨_, .inl ⟨kvs, k, .inr ⟨ob, e⟩, keyOf_kV ek, rfl⟩, h⟩
    · exact h.elim
  · rename_i kvs e
    obtain ⟨k, b, rfl, eb, h⟩ := h
    exact ⟨_, .inr ⟨kvs, k, b, .inl e, rfl, eb, rfl⟩, h⟩
  · rename_i ob kvs e
    obtain ⟨k, b, rfl, eb, h⟩ := h
    exact ⟨_, .inr ⟨kvs, k, b, .inr ⟨ob, e⟩, rfl, eb, rfl⟩, h⟩
  · exact h.elim
def oIx (K : PySem.W.Frag) : R2 := fun x y H Q => match x with
  | .ref p => (match look K H p with
    | some (.lst xs) => (match y with
        | .int i => (match atI xs i with
            | some v => Q v H
            | none => False)
        | _ => False)
    | some (.tup xs) => (match y with
        | .int i => (match atI xs i with
            | some v => Q v H
            | none => False)
        | _ => False)
    | _ => oGet H p y fun o => match o with
        | some v => Q v H
        | none => False)
  | .str z => (match y with
    | .int i => z.length ≤ sizeLine ∧ (match atI z.cps.toList i with
        | some c => Q (.str ⟨#[c]⟩) H
        | none => False)
    | _ => False)
  | _ => False
theorem look_rng {K : PySem.W.Frag} {H : Hp} {a : Addr} {lo hi : Int} (h : look K H a = some (.rng lo hi)) : Rd H a (.rng lo hi) := by
  rcases look_rd h with r | ⟨_, r⟩
  · exact r
  · rcases kobj_no r with ⟨_, z⟩ | ⟨_, z⟩ <;> cases z
def oIn (K : PySem.W.Frag) (neg : Bool) : R2 := fun x y H Q => match y with
  | .str z => (match x with
    | .str s => (match s.cps.toList with
        | [c] => Q (.bl (neg ^^ decide (c ∈ z.cps.toList))) H
        | _ => Q (.bl (neg ^^ !(Builtin.Str.occurrences z s 0 z.length 1).isEmpty)) H)
    | _ => False)
  | .ref p => (match look K H p with
    | some (.lst xs) => (flatV x = true ∧ xs.all flatV = true ∧ Q (.bl (neg ^^ inV x xs)) H) ∨
        (∃ d ds, Dp K H x d ∧ Dp K H y (.list ds) ∧ SeqAt.shaped d = true ∧ SeqAt.shaped (.list ds) = true ∧ Q (.bl (neg ^^ ds.any fun z => PyData.eqv z d)) H) ∨ rInM K neg x y H Q
    | some (.tup xs) => flatV x = true ∧ xs.all flatV = true ∧ Q (.bl (neg ^^ inV x xs)) H
    | some (.rng lo hi) => (match inRg x lo hi with
      | some b => Q (.bl (neg ^^ b)) H
      | none => False)
    | _ => oGet H p x fun o => Q (.bl (neg ^^ o.isSome)) H)
  | _ => False
section
variable {X : Cx}
theorem ix_dict (hu : X.A.units + 1 < cLine) : IxR X (fun x y H Q => ∃ a v, x = .ref a ∧ DGet H a y (some v) ∧ Q v H) := by
  intro value slice pins s σ H x y v u Q I rx ry h hs
  obtain ⟨a, v', rfl, g, q⟩ := h
  cases rx
  exact tail_any (dict_typeIs I g) PySem.F.slot_dict_getitem.lookup (d_getItem hu I g ry fun w' s3 I3 rw' => ⟨v', H, I3, rw', q⟩) hs
theorem r_ix (hu : X.A.units + 1 < cLine) : IxR X (oIx X.K) := by
  intro value slice pins s σ H x y v u Q I rx ry h hs
  unfold oIx at h
  split at h
  · rename_i p
    split at h
    · rename_i xs e
      split at h
      · split at h
        · rename_i ea
          exact ix_seq value slice pins s σ H _ _ v u Q I rx ry (.inl ⟨_, _, _, _, rfl, rfl, look_lst e, ea, h⟩) hs
        · exact h.elim
      · exact h.elim
    · rename_i xs e
      split at h
      · split at h
        · rename_i ea
          exact ix_seq value slice pins s σ H _ _ v u Q I rx ry (.inr (.inl ⟨_, _, _, _, rfl, rfl, look_tup e, ea, h⟩)) hs
        · exact h.elim
      · exact h.elim
    · obtain ⟨o, g, h⟩ := oGet_dget h
      cases o with
      | none => exact h.elim
      | some w => exact ix_dict hu value slice pins s σ H _ _ v u Q I rx ry ⟨_, _, rfl, g, h⟩ hs
  · split at h
    · obtain ⟨hz, h⟩ := h
      split at h
      · rename_i ea
        exact ix_seq value slice pins s σ H _ _ v u Q I rx ry (.inr (.inr ⟨_, _, _, rfl, rfl, hz, ea, h⟩)) hs
      · exact h.elim
    · exact h.elim
  · exact h.elim
theorem xf (b : Bool) : (false ^^ b) = b := by cases b <;> rfl
theorem xt (b : Bool) : (true ^^ b) = !b := by cases b <;> rfl
theorem one_of {s : Str} {c : Nat} (h : s.cps.toList = [c]) : s = ⟨#[c]⟩ := by
  obtain ⟨cps⟩ := s
  have : cps = #[c] := by
    apply Array.ext'
    exact h
  subst this; rfl
theorem r_in (hu : X.A.units + 65 < cLine) : OpR X (compareOp .In) (oIn X.K false) := by
  intro pins s σ H x y v u Q I rx ry h
  unfold oIn at h
  split at h
  · split at h
    · split at h
      · rename_i c e
        rw [xf] at h
        rw [one_of e] at rx
        exact op_in_sign pins s σ H _ _ v u Q I rx ry ⟨_, _, rfl, rfl, h⟩
      · rw [xf] at h
        exact op_in_str pins s σ H _ _ v u Q I rx ry ⟨_, _, rfl, rfl, h⟩
    · exact h.elim
  · split at h
    · rename_i xs e
      rcases h with ⟨h1, h2, h⟩ | ⟨d, ds, h1, h2, h3, h4, h⟩ | h
      · rw [xf] at h
        exact op_in_seq pins s σ H _ _ v u Q I rx ry ⟨_, _, rfl, .inl (look_lst e), h1, h2, h⟩
      · rw [xf] at h
        exact op_inD hu pins s σ H _ _ v u Q I rx ry ⟨d, ds, h1, h2, h3, h4, h⟩
      · exact op_inM (by show X.A.units + 1 < _; omega) pins s σ H _ _ v u Q I rx ry h
    · rename_i xs e
      obtain ⟨h1, h2, h⟩ := h
      rw [xf] at h
      exact op_in_seq pins s σ H _ _ v u Q I rx ry ⟨_, _, rfl, .inr (look_tup e), h1, h2, h⟩
    · rename_i lo hi e
      split at h
      · rename_i b eb
        rw [xf] at h
        exact op_in_rgA pins s σ H _ _ v u Q I rx ry ⟨_, _, _, b, rfl, look_rng e, eb, h⟩
      · exact h.elim
    · obtain ⟨o, g, h⟩ := oGet_dget h
      rw [xf] at h
      cases ry
      exact d_in (by omega) I g rx fun s' I' => ⟨.bl _, H, I', rfl, h⟩
  · exact h.elim
theorem r_notin (hu : X.A.units + 65 < cLine) : OpR X (compareOp .NotIn) (oIn X.K true) := by
  intro pins s σ H x y v u Q I rx ry h
  unfold oIn at h
  split at h
  · split at h
    · split at h
      · rename_i c e
        rw [xt] at h
        rw [one_of e] at rx
        exact op_notIn_sign pins s σ H _ _ v u Q I rx ry ⟨_, _, rfl, rfl, h⟩
      · rw [xt] at h
        exact op_notin_str pins s σ H _ _ v u Q I rx ry ⟨_, _, rfl, rfl, h⟩
    · exact h.elim
  · split at h
    · rename_i xs e
      rcases h with ⟨h1, h2, h⟩ | ⟨d, ds, h1, h2, h3, h4, h⟩ | h
      · rw [xt] at h
        exact op_notIn_seq pins s σ H _ _ v u Q I rx ry ⟨_, _, rfl, .inl (look_lst e), h1, h2, h⟩
      · rw [xt] at h
        exact op_notInD hu pins s σ H _ _ v u Q I rx ry ⟨d, ds, h1, h2, h3, h4, h⟩
      · exact op_notInM (by show X.A.units + 1 < _; omega) pins s σ H _ _ v u Q I rx ry h
    · rename_i xs e
      obtain ⟨h1, h2, h⟩ := h
      rw [xt] at h
      exact op_notIn_seq pins s σ H _ _ v u Q I rx ry ⟨_, _, rfl, .inr (look_tup e), h1, h2, h⟩
    · rename_i lo hi e
      split at h
      · rename_i b eb
        rw [xt] at h
        exact op_notIn_rgA pins s σ H _ _ v u Q I rx ry ⟨_, _, _, b, rfl, look_rng e, eb, h⟩
      · exact h.elim
    · obtain ⟨o, g, h⟩ := oGet_dget h
      rw [xt] at h
      cases ry
      exact d_notIn (by omega) I g rx fun s' I' => ⟨.bl _, H, I', rfl, h⟩
  · exact h.elim
/-- x[lo:hi] -/
def oSl (K : PySem.W.Frag) : V → Option Int → Option Int → Hp → VK → Prop := fun x lo hi H Q => match x with
  | .str z => z.length ≤ sizeLine ∧ Q (.str (cutS z lo hi)) H
  | .ref a => (match look K H a with
    | some (.lst xs) => ∀ p, H p = none → Q (.ref p) (upd H p (.lst (cutV xs lo hi)))
    | some (.tup xs) => (HT.sIx xs.length 0 lo = 0 ∧ HT.sIx xs.length xs.length hi = xs.length → Q (.ref a) H) ∧ (¬ (HT.sIx xs.length 0 lo = 0 ∧ HT.sIx xs.length xs.length hi = xs.length) → ∀ p, H p = none → Q (.ref p) (upd H p (.tup (cutV xs lo hi))))
    | _ => False)
  | _ => False
theorem r_sl : L2.SlR X (oSl X.K) := by
  intro pins s σ H x v vl vu lo hi sl Q I rx hs pl pu h
  unfold oSl at h
  split at h
  · exact sl_str pins s σ H _ v vl vu lo hi sl Q I rx hs pl pu ⟨_, rfl, h.1, h.2⟩
  · split at h
    · rename_i e
      exact sl_list pins s σ H _ v vl vu lo hi sl Q I rx hs pl pu ⟨_, _, rfl, look_lst e, h⟩
    · rename_i e
      exact sl_tupA pins s σ H _ v vl vu lo hi sl Q I rx hs pl pu ⟨_, _, rfl, look_tup e, h.1, h.2⟩
    · exact h.elim
  · exact h.elim
end

/-! ## 10. truth -/
def oTru (K : PySem.W.Frag) (x : V) (H : Hp) : Option Bool := match x with
  | .non => some false
  | .bl b => some b
  | .int i => some (i != 0)
  | .str y => if y.length ≤ sizeLine then some ((y.length : Int) != 0) else none
  | .ref p => (match look K H p with
    | some (.lst xs) => some (!xs.isEmpty)
    | some (.tup xs) => some (!xs.isEmpty)
    | _ => (match H p with
      | some (.dK kvs) => some (!kvs.isEmpty)
      | _ => none))
  | _ => none
theorem oTru_ok {K : PySem.W.Frag} {x : V} {H : Hp} {b : Bool} (h : oTru K x H = some b) : TruV K x H b := by
  unfold oTru at h
  split at h
  · cases h; exact rfl
  · cases h; exact rfl
  · cases h; exact rfl
  · split at h
    · rename_i hz; cases h; exact ⟨hz, rfl⟩
    · cases h
  · split at h
    · rename_i e; cases h; exact .inl ⟨_, look_lst e, rfl⟩
    · rename_i e; cases h; exact .inr (.inl ⟨_, look_tup e, rfl⟩)
    · split at h
      · rename_i e; cases h; exact .inr (.inr ⟨_, e, rfl⟩)
      · cases h
  · cases h
def cTru (K : PySem.W.Frag) (t : TE) : TT := fun σ H Q => t σ H fun x H1 => match oTru K x H1 with
  | some b => Q b H1
  | none => False

/-! ## 11. built-in functions -/
abbrev RC := List V → Hp → VK → Prop
def tyN (K : PySem.W.Frag) (H : Hp) (x : V) : Option String := match x with
  | .non => some "NoneType"
  | .bl _ => some "bool"
  | .int _ => some "int"
  | .str _ => some "str"
  | .ref p => (match look K H p with
    | some (.lst _) => some "list"
    | some (.tup _) => some "tuple"
    | some (.dK _) => some "dict"
    | _ => (match H p with
      | some (.dT _) => some "dict"
      | _ => none))
  | _ => none
theorem kobj_lstO {K : PySem.W.Frag} {a : Addr} {xs : List V} (h : kobj K a = some (.lst xs)) : ∃ o, K.lookup a = some o ∧ o.cls = .type "list" := by
  have z := kobj_lst (H := fun _ => none) h
  rcases z with z | ⟨o, its, n, e, c, _⟩
  · rcases z with z | ⟨_, z⟩ <;> cases z
  · exact ⟨o, e, c⟩
theorem kobj_tupO {K : PySem.W.Frag} {a : Addr} {xs : List V} (h : kobj K a = some (.tup xs)) : ∃ o, K.lookup a = some o ∧ o.cls = .type "tuple" := by
  have z := kobj_tup (H := fun _ => none) h
  rcases z with z | ⟨o, its, n, e, c, _⟩
  · rcases z with z | ⟨_, z⟩ <;> cases z
  · exact ⟨o, e, c⟩
theorem tyN_ok {K : PySem.W.Frag} {H : Hp} {x : V} {n : String} (h : tyN K H x = some n) : TyX K H x (.type n) := by
  unfold tyN at h
  split at h
  · cases h; exact .base .non
  · cases h; exact .base (.bl _)
  · cases h; exact .base (.int _)
  · cases h; exact .base (.str _)
  · split at h
    · rename_i e; cases h
      rcases look_rd e with (r | ⟨o, r⟩) | ⟨_, r⟩
      · exact .base (.lst r)
      · exact .base (.frz r)
      · obtain ⟨o, h1, h2⟩ := kobj_lstO r; exact .kList h1 h2
    · rename_i e; cases h
      rcases look_rd e with (r | ⟨o, r⟩) | ⟨_, r⟩
      · exact .base (.tup r)
      · exact .fTuple r
      · obtain ⟨o, h1, h2⟩ := kobj_tupO r; exact .kTuple h1 h2
    · rename_i e; cases h
      rcases look_dK e with r | ⟨o, r⟩
      · exact .base (.dK r)
      · exact .fDict r
    · split at h
      · rename_i e; cases h; exact .base (.dT e)
      · cases h
  · cases h
/-- isinstance(x, T), isinstance(x, (T, ..)), T built-in; of own classes by the written part -/
def allTy : List V → Option (List String)
  | [] => some []
  | .ty n :: r => (allTy r).map (n :: ·)
  | _ :: _ => none
def kitBs (n : String) : List String → Option Bool
  | [] => some false
  | T :: r => match kitB n T with
    | some true => some true
    | some false => kitBs n r
    | none => none
def bIsi (K : PySem.W.Frag) : RC := fun xs H Q => match xs with
  | [x, .ty T] => (match tyN K H x with
    | some n => (match kitB n T with
        | some b => Q (.bl b) H
        | none => False)
    | none => rIsi K xs H Q)
  | [x, .ref c] => (match H c with
    | some (.tup cs) => (match tyN K H x, allTy cs with
        | some n, some ts => (match kitBs n ts with
            | some b => Q (.bl b) H
            | none => False)
        | _, _ => rIsiT K xs H Q)
    | _ => rIsi K xs H Q)
  | _ => False
theorem allTy_cls : ∀ {cs : List V} {ts : List String}, allTy cs = some ts → Paired ClsV cs (ts.map Value.type)
  | [], ts, h => by cases h; exact .nil
  | c :: r, ts, h => by
    cases c <;> first | (simp only [allTy] at h; done) | skip
    all_goals try (cases h; done)
    rename_i n
    simp only [allTy] at h
    cases e : allTy r with
    | none => rw [e] at h; cases h
    | some l => rw [e] at h; cases h; exact .cons (.ty _) (allTy_cls e)
theorem kitBs_ok {K : PySem.W.Frag} {n : String} : ∀ {ts : List String} {b : Bool}, kitBs n ts = some b → PySem.W.kitAny K (.type n) (ts.map Value.type) = some b
  | [], b, h => by cases h; exact kitAny_nil
  | T :: r, b, h => by
    unfold kitBs at h
    split at h
    · rename_i e; cases h; exact kitAny_cons (kit_ty e) (fun z => nomatch z) fun _ => rfl
    · rename_i e; exact kitAny_cons (kit_ty e) (fun _ => kitBs_ok h) (fun z => nomatch z)
    · cases h
def bLen (K : PySem.W.Frag) : RC := fun xs H Q => match xs with
  | [.str y] => y.length ≤ sizeLine ∧ Q (.int y.length) H
  | [.ref p] => (match look K H p with
    | some (.lst ys) => Q (.int ys.length) H
    | some (.tup ys) => Q (.int ys.length) H
    | _ => (match H p with
      | some (.dK kvs) => Q (.int kvs.length) H
      | _ => False))
  | _ => False
def bAbs : RC := fun xs H Q => match xs with
  | [.int i] => Q (.int (if i < 0 then -i else i)) H
  | _ => False
def bMax : RC := fun xs H Q => match xs with
  | [.int i, .int j] => Q (.int (if j > i then j else i)) H
  | _ => False
def bMin : RC := fun xs H Q => match xs with
  | [.int i, .int j] => Q (.int (if j < i then j else i)) H
  | _ => False
def bOrd : RC := fun xs H Q => match xs with
  | [.str x] => x.length = 1 ∧ Q (.int (x.cps.getD 0 0 : Nat)) H
  | _ => False
def bInt : RC := fun xs H Q => match xs with
  | [.int i] => Q (.int i) H
  | [.bl k] => Q (.int (if k then 1 else 0)) H
  | [.str a] => a.length ≤ 640 ∧ (match PySem.intText? a with
    | some n => Q (.int n) H
    | none => False)
  | _ => False
def bStrOf : RC := fun xs H Q => match xs with
  | [.int i] => i.natAbs.log2 < 1920 ∧ Q (.str (toString i)) H
  | _ => False
def bAll (K : PySem.W.Frag) : RC := fun xs H Q => ∃ (a : Addr) (bs : List Bool), xs = [V.ref a] ∧ look K H a = some (.lst (bs.map V.bl)) ∧ Q (.bl (bs.all id)) H
def bAny (K : PySem.W.Frag) : RC := fun xs H Q => ∃ (a : Addr) (bs : List Bool), xs = [V.ref a] ∧ look K H a = some (.lst (bs.map V.bl)) ∧ Q (.bl (bs.any id)) H
def bSum (K : PySem.W.Frag) : RC := fun xs H Q => ∃ (a : Addr) (ns : List Int), xs = [V.ref a] ∧ look K H a = some (.lst (ns.map V.int)) ∧ Q (.int ns.sum) H
def bList (K : PySem.W.Frag) : RC := fun xs H Q => match xs with
  | [.ref p] => (match look K H p with
    | some (.lst ys) => ∀ l, H l = none → Q (.ref l) (upd H l (.lst ys))
    | some (.tup ys) => ∀ l, H l = none → Q (.ref l) (upd H l (.lst ys))
    | some (.dK kvs) => ∀ l, H l = none → Q (.ref l) (upd H l (.lst (kvs.map fun kv => kV kv.1)))
    | some (.rng lo hi) => RgOk lo hi ∧ ∀ l, H l = none → Q (.ref l) (upd H l (.lst (rgV lo hi)))
    | _ => False)
  | _ => False
/-- range(n), range(i, j) as a value -/
def bRng : RC := fun xs H Q => match xs with
  | [.int n] => ∀ p, H p = none → Q (.ref p) (upd H p (.rng 0 n))
  | [.int i, .int j] => ∀ p, H p = none → Q (.ref p) (upd H p (.rng i j))
  | _ => False
def bTuple (K : PySem.W.Frag) : RC := fun xs H Q => match xs with
  | [.ref p] => (match look K H p with
    | some (.lst ys) => ∀ l, H l = none → Q (.ref l) (upd H l (.tup ys))
    | some (.tup ys) => Q (.ref p) H
    | _ => False)
  | _ => False
def bDict (K : PySem.W.Frag) : RC := fun xs H Q => match xs with
  | [.ref p] => (match look K H p with
    | some (.dK kvs) => ∀ l, H l = none → Q (.ref l) (upd H l (.dK kvs))
    | some (.lst ys) => ∃ (ps : List Addr) (kvs : List (Key × V)), ys = ps.map V.ref ∧ Paired (fun p kv => SqT K H p [kV kv.1, kv.2]) ps kvs ∧ ∀ l, H l = none → Q (.ref l) (upd H l (.dK (mergeK [] kvs)))
    | _ => False)
  | _ => False
section
variable {X : Cx}
theorem b_isi : CallR X (.builtin "isinstance") (bIsi X.K) := by
  refine CallR_imp (call_isi.or call_isiT) fun xs H Q h => ?_
  unfold bIsi at h
  split at h
  · split at h
    · rename_i n e
      split at h
      · rename_i b eb
        exact .inl ⟨_, _, _, _, b, rfl, .ty _, tyN_ok e, kit_ty eb, h⟩
      · exact h.elim
    · exact .inl h
  · split at h
    · rename_i cs ec
      split at h
      · rename_i n ts e1 e2
        split at h
        · rename_i b eb
          exact .inr ⟨_, _, _, _, _, b, rfl, ec, allTy_cls e2, tyN_ok e1, kitBs_ok eb, h⟩
        · exact h.elim
      · exact .inr h
    · exact .inl h
  · exact h.elim
theorem b_len : CallR X (.builtin "len") (bLen X.K) := by
  refine CallR_imp (call_len.or call_lenD) fun xs H Q h => ?_
  unfold bLen at h
  split at h
  · exact .inl ⟨_, _, rfl, ⟨h.1, rfl⟩, h.2⟩
  · split at h
    · rename_i e; exact .inl ⟨_, _, rfl, .inl ⟨_, look_lst e, rfl⟩, h⟩
    · rename_i e; exact .inl ⟨_, _, rfl, .inr ⟨_, look_tup e, rfl⟩, h⟩
    · split at h
      · rename_i e; exact .inr ⟨_, _, rfl, e, h⟩
      · exact h.elim
  · exact h.elim
theorem b_abs : CallR X (.builtin "abs") bAbs := CallR_imp call_abs fun xs H Q h => by
  unfold bAbs at h; split at h
  · exact ⟨_, rfl, h⟩
  · exact h.elim
theorem b_max (hc : X.calm = true) : CallR X (.builtin "max") bMax := CallR_imp (call_max2 hc) fun xs H Q h => by
  unfold bMax at h; split at h
  · exact ⟨_, _, rfl, h⟩
  · exact h.elim
theorem b_min (hc : X.calm = true) : CallR X (.builtin "min") bMin := CallR_imp (call_min2 hc) fun xs H Q h => by
  unfold bMin at h; split at h
  · exact ⟨_, _, rfl, h⟩
  · exact h.elim
theorem b_ord : CallR X (.builtin "ord") bOrd := CallR_imp call_ord fun xs H Q h => by
  unfold bOrd at h; split at h
  · exact ⟨_, rfl, h.1, h.2⟩
  · exact h.elim
theorem b_int : CallR X (.type "int") bInt := CallR_imp (call_int1.or call_int_str) fun xs H Q h => by
  unfold bInt at h; split at h
  · exact .inl (.inl ⟨_, rfl, h⟩)
  · exact .inl (.inr ⟨_, rfl, h⟩)
  · obtain ⟨hz, h⟩ := h
    split at h
    · rename_i e; exact .inr ⟨_, _, rfl, e, hz, h⟩
    · exact h.elim
  · exact h.elim
theorem b_str : CallR X (.type "str") bStrOf := CallR_imp call_str_int fun xs H Q h => by
  unfold bStrOf at h; split at h
  · exact ⟨_, rfl, h.1, h.2⟩
  · exact h.elim
theorem b_all (hc : X.calm = true) : CallR X (.builtin "all") (bAll X.K) := CallR_imp (cr_all hc) fun xs H Q ⟨a, bs, e, l, q⟩ => ⟨a, bs, e, look_lst l, q⟩
theorem b_any (hc : X.calm = true) : CallR X (.builtin "any") (bAny X.K) := CallR_imp (cr_any hc) fun xs H Q ⟨a, bs, e, l, q⟩ => ⟨a, bs, e, look_lst l, q⟩
theorem b_sum (hc : X.calm = true) : CallR X (.builtin "sum") (bSum X.K) := CallR_imp (cr_sum hc) fun xs H Q ⟨a, bs, e, l, q⟩ => ⟨a, bs, e, look_lst l, q⟩
theorem b_list (hc : X.calm = true) : CallR X (.type "list") (bList X.K) := CallR_imp ((call_list_of.or (call_listD hc)).or (call_list_rng hc)) fun xs H Q h => by
  unfold bList at h
  split at h
  · split at h
    · rename_i e; exact .inl (.inl ⟨_, _, rfl, .inl (look_lst e), h⟩)
    · rename_i e; exact .inl (.inl ⟨_, _, rfl, .inr (look_tup e), h⟩)
    · rename_i e; exact .inl (.inr ⟨_, _, rfl, look_dK e, h⟩)
    · rename_i e; exact .inr ⟨_, _, _, rfl, look_rng e, h.1, h.2⟩
    · exact h.elim
  · exact h.elim
theorem b_rng : CallR X (.type "range") bRng := by
  intro pins s σ H xs us Q I r h
  unfold bRng at h
  split at h
  · obtain ⟨u1, rfl, ri⟩ := vals1 r
    obtain ⟨t, rfl⟩ := ri
    refine call_range_1 ⟨.ref s.heap.objs.size, upd H s.heap.objs.size (.rng 0 _), I.laid (t' := s.toks + 2) (fun b o e => Heap.get?_push_of_some _ e) (Nat.le_refl _) ?_, rfl, h _ (I.hok.fresh (Nat.le_refl _))⟩
    exact ⟨_, _, _, Heap.get?_push_size _ rfl⟩
  · exact cr_range2 pins s σ H _ us Q I r ⟨_, _, rfl, h⟩
  · exact h.elim
theorem b_tuple : CallR X (.type "tuple") (bTuple X.K) := CallR_imp call_tuple_of fun xs H Q h => by
  unfold bTuple at h
  split at h
  · split at h
    · rename_i e; exact ⟨_, _, rfl, .inl ⟨look_lst e, h⟩⟩
    · rename_i e; exact ⟨_, _, rfl, .inr ⟨look_tup e, h⟩⟩
    · exact h.elim
  · exact h.elim
theorem b_dict (hc : X.calm = true) : CallR X (.type "dict") (bDict X.K) := CallR_imp (call_dictD.or (call_dictP hc)) fun xs H Q h => by
  unfold bDict at h
  split at h
  · split at h
    · rename_i e; exact .inl ⟨_, _, rfl, look_dK e, h⟩
    · rename_i e
      obtain ⟨ps, kvs, rfl, hp, q⟩ := h
      exact .inr ⟨_, ps, kvs, rfl, look_lst e, hp, q⟩
    · exact h.elim
  · exact h.elim
end
end WR

set_option Elab.async false
set_option linter.all false
set_option maxRecDepth 100000
set_option maxHeartbeats 4000000
namespace WR
open PySem PySem.Spec PyProof.Rows L2

/-! ## 12. methods of built-in types -/
abbrev RM := V → List V → Hp → VK → Prop
def mAppend : RM := fun x vs H Q => match x, vs with
  | .ref l, [y] => (match H l with
    | some (.lst xs) => xs.length < sizeLine ∧ Q .non (upd H l (.lst (xs ++ [y])))
    | _ => False)
  | _, _ => False
def mExtend : RM := fun x vs H Q => match x, vs with
  | .ref l, [.ref b] => (match H l, H b with
    | some (.lst xs), some (.lst zs) => xs.length + zs.length ≤ sizeLine ∧ Q .non (upd H l (.lst (xs ++ zs)))
    | _, _ => False)
  | _, _ => False
def mPopL : RM := fun x vs H Q => match x, vs with
  | .ref l, [] => (match H l with
    | some (.lst xs) => (match xs[xs.length - 1]? with
        | some y => Q y (upd H l (.lst xs.dropLast))
        | none => False)
    | _ => False)
  | .ref l, [.int i] => (match H l with
    | some (.lst xs) => -(2 ^ 63) ≤ i ∧ i < 2 ^ 63 ∧ (match seqIndex? i xs.length with
        | some k => (match xs[k]? with
          | some y => Q y (upd H l (.lst (xs.eraseIdx k)))
          | none => False)
        | none => False)
    | _ => False)
  | _, _ => False
def mReverse : RM := fun x vs H Q => match x, vs with
  | .ref l, [] => (match H l with
    | some (.lst xs) => Q .non (upd H l (.lst xs.reverse))
    | _ => False)
  | _, _ => False
def mClearL : RM := fun x vs H Q => match x, vs with
  | .ref l, [] => (match H l with
    | some (.lst xs) => Q .non (upd H l (.lst []))
    | _ => False)
  | _, _ => False
def mInsert : RM := fun x vs H Q => match x, vs with
  | .ref l, [.int i, y] => (match H l with
    | some (.lst xs) => xs.length < sizeLine ∧ 0 ≤ i ∧ i < 2 ^ 63 ∧ Q .non (upd H l (.lst (xs.take i.toNat ++ [y] ++ xs.drop i.toNat)))
    | _ => False)
  | _, _ => False
def mIndexL (K : PySem.W.Frag) : RM := fun x vs H Q => match x, vs with
  | .ref l, [y] => (match look K H l with
    | some (.lst ys) => flatV y = true ∧ ys.all flatV = true ∧ ∃ (j : Nat) (z : V), ys[j]? = some z ∧ eqV z y = true ∧ (∀ (m : Nat) (z' : V), m < j → ys[m]? = some z' → eqV z' y = false) ∧ Q (.int (j : Nat)) H
    | _ => False)
  | _, _ => False
def mIndexT (K : PySem.W.Frag) : RM := fun x vs H Q => match x, vs with
  | .ref l, [.str z] => ∃ (ys : List Str) (j : Nat), look K H l = some (.tup (ys.map V.str)) ∧ ys[j]? = some z ∧ (∀ m, m < j → ys[m]? ≠ some z) ∧ Q (.int (j : Nat)) H
  | _, _ => False
/-- how often a truth is among truths -/
def mCountL (K : PySem.W.Frag) : RM := fun x vs H Q => match x, vs with
  | .ref l, [.bl k] => ∃ bs : List Bool, look K H l = some (.lst (bs.map V.bl)) ∧ Q (.int (bs.count k : Nat)) H
  | _, _ => False
def mGetD : RM := fun x vs H Q => match x, vs with
  | .ref a, [y] => oGet H a y fun o => Q (o.getD .non) H
  | .ref a, [y, d] => oGet H a y fun o => Q (o.getD d) H
  | _, _ => False
def mPopD : RM := fun x vs H Q => match x, vs with
  | .ref a, [y] => (match H a, keyOf y with
    | some (.dK kvs), some k => (match valV kvs k with
        | some v => Q v (upd H a (.dK (dropK kvs k)))
        | none => False)
    | _, _ => False)
  | .ref a, [y, d] => (match H a, keyOf y with
    | some (.dK kvs), some k => (match valV kvs k with
        | some v => Q v (upd H a (.dK (dropK kvs k)))
        | none => Q d H)
    | _, _ => False)
  | _, _ => False
def mClearD : RM := fun x vs H Q => match x, vs with
  | .ref a, [] => (match H a with
    | some (.dK kvs) => Q .non (upd H a (.dK []))
    | _ => False)
  | _, _ => False
def mJoin (K : PySem.W.Frag) : RM := fun x vs H Q => match x, vs with
  | .str a, [.ref p] => ∃ ys : List Str, (look K H p = some (.lst (ys.map V.str)) ∨ look K H p = some (.tup (ys.map V.str))) ∧ (ys.map (·.length)).sum + ys.length * a.length ≤ 16777216 ∧ Q (.str (Txt.join a ys)) H
  | _, _ => False
def mSplit : RM := fun x vs H Q => match x, vs with
  | .str a, [.str b] => (b.length == 0) = false ∧ a.length + 2 ≤ sizeLine ∧ ∀ p, H p = none → Q (.ref p) (upd H p (.lst ((Txt.split a b).map V.str)))
  | _, _ => False
def mPartition : RM := fun x vs H Q => match x, vs with
  | .str a, [.str b] => (b.length == 0) = false ∧ a.length ≤ sizeLine ∧ ∀ p, H p = none → Q (.ref p) (upd H p (.tup [.str (Txt.partition a b).1, .str (Txt.partition a b).2.1, .str (Txt.partition a b).2.2]))
  | _, _ => False
def mIndexS : RM := fun x vs H Q => match x, vs with
  | .str a, [.str b] => (match Builtin.Str.occurrences a b 0 a.length 1 with
    | i :: _ => Q (.int (i : Nat)) H
    | [] => False)
  | _, _ => False
def mEnds : RM := fun x vs H Q => match x, vs with
  | .str a, [.str b] => Q (.bl (Txt.endswith a b)) H
  | _, _ => False
def mCountS : RM := fun x vs H Q => match x, vs with
  | .str a, [.str b] => Q (.int (Txt.count a b)) H
  | _, _ => False
def mUpper : RM := fun x vs H Q => match x, vs with
  | .str a, [] => a.length ≤ 5592405 ∧ Q (.str (Txt.upper a)) H
  | _, _ => False
section
variable {X : Cx}
theorem m_append : MtR X "list.append" mAppend := MtR_imp mt_append fun x vs H Q h => by
  unfold mAppend at h; split at h
  · split at h
    · rename_i e; exact ⟨_, _, _, rfl, rfl, e, h.1, h.2⟩
    · exact h.elim
  · exact h.elim
theorem m_extend : MtR X "list.extend" mExtend := MtR_imp mt_extend fun x vs H Q h => by
  unfold mExtend at h; split at h
  · split at h
    · rename_i e f; exact ⟨_, _, _, _, rfl, rfl, e, f, h.1, h.2⟩
    · exact h.elim
  · exact h.elim
theorem m_popL : MtR X "list.pop" mPopL := MtR_imp (MtR.or mt_pop mt_popAt) fun x vs H Q h => by
  unfold mPopL at h; split at h
  · split at h
    · rename_i e
      split at h
      · rename_i f; exact .inl ⟨_, _, _, rfl, rfl, e, f, h⟩
      · exact h.elim
    · exact h.elim
  · split at h
    · rename_i e
      obtain ⟨h1, h2, h⟩ := h
      split at h
      · rename_i f
        split at h
        · rename_i g; exact .inr ⟨_, _, _, _, _, rfl, rfl, e, h1, h2, f, g, h⟩
        · exact h.elim
      · exact h.elim
    · exact h.elim
  · exact h.elim
theorem m_reverse : MtR X "list.reverse" mReverse := MtR_imp mt_reverse fun x vs H Q h => by
  unfold mReverse at h; split at h
  · split at h
    · rename_i e; exact ⟨_, _, rfl, rfl, e, h⟩
    · exact h.elim
  · exact h.elim
theorem m_clearL : MtR X "list.clear" mClearL := MtR_imp mt_clear fun x vs H Q h => by
  unfold mClearL at h; split at h
  · split at h
    · rename_i e; exact ⟨_, _, rfl, rfl, e, h⟩
    · exact h.elim
  · exact h.elim
theorem m_insert : MtR X "list.insert" mInsert := MtR_imp mt_insert fun x vs H Q h => by
  unfold mInsert at h; split at h
  · split at h
    · rename_i e; exact ⟨_, _, _, _, rfl, rfl, e, h.1, h.2.1, h.2.2.1, h.2.2.2⟩
    · exact h.elim
  · exact h.elim
theorem m_indexL : MtR X "list.index" (mIndexL X.K) := MtR_imp mt_index fun x vs H Q h => by
  unfold mIndexL at h; split at h
  · split at h
    · rename_i e
      obtain ⟨h1, h2, j, z, h3, h4, h5, q⟩ := h
      exact ⟨_, _, _, j, z, rfl, rfl, look_lst e, h1, h2, h3, h4, h5, q⟩
    · exact h.elim
  · exact h.elim
theorem m_indexT : MtR X "tuple.index" (mIndexT X.K) := MtR_imp mt_tup_index fun x vs H Q h => by
  unfold mIndexT at h; split at h
  · obtain ⟨ys, j, h1, h2, h3, q⟩ := h
    exact ⟨_, ys, _, j, rfl, rfl, look_tup h1, h2, h3, q⟩
  · exact h.elim
theorem dpAll_bools {K : PySem.W.Frag} {H : Hp} : ∀ bs : List Bool, DpAll K H (bs.map V.bl) (bs.map PyData.bool)
  | [] => .nil
  | b :: bs => .cons (.bl b) (dpAll_bools bs)
theorem countIn_bools (k : Bool) : ∀ bs : List Bool, countIn (.bool k) (bs.map PyData.bool) = ((bs.count k : Nat) : Int)
  | [] => rfl
  | b :: bs => by
    rw [List.map_cons, countIn, countIn_bools k bs, List.count_cons]
    simp only [same]
    cases b <;> cases k <;> simp <;> omega
theorem m_countL : MtR X "list.count" (mCountL X.K) := by
  intro pins s σ H x vs v us Q I rx rs h
  unfold mCountL at h
  split at h
  · obtain ⟨bs, e, q⟩ := h
    cases rx
    obtain ⟨u, rfl, ru⟩ := vals1 rs
    obtain rfl : u = Value.bool _ := ru
    obtain ⟨its, rv, p, hz⟩ := I.list (look_lst e)
    obtain ⟨as, ra⟩ := Dp.readsAll I _ _ its (dpAll_bools bs) rv
    refine count_list_bools p.isList ra (by rw [List.all_map]; exact List.all_eq_true.mpr fun b _ => rfl) ?_
    rw [countIn_bools]
    exact ⟨.int _, H, I.tok _, ⟨_, rfl⟩, q⟩
  · exact h.elim
theorem m_getD (hu : X.A.units + 1 < cLine) : MtR X "dict.get" mGetD := by
  intro pins s σ H x vs v us Q I rx rs h
  unfold mGetD at h
  split at h
  · obtain ⟨o, g, q⟩ := oGet_dget h
    cases rx
    obtain ⟨u, rfl, ru⟩ := vals1 rs
    exact d_get1 hu I g ru fun w' s' I' r' => ⟨_, H, I', r', q⟩
  · obtain ⟨o, g, q⟩ := oGet_dget h
    cases rx
    obtain ⟨u, u2, rfl, ru, ru2⟩ := vals2 rs
    exact d_get2 hu I g ru ru2 fun w' s' I' r' => ⟨_, H, I', r', q⟩
  · exact h.elim
theorem m_popD : MtR X "dict.pop" mPopD := by
  intro pins s σ H x vs v us Q I rx rs h
  unfold mPopD at h
  split at h
  · split at h
    · rename_i k e ek
      split at h
      · rename_i el
        cases rx
        obtain ⟨u, rfl, ru⟩ := vals1 rs
        rw [keyOf_kV ek] at ru
        exact d_pop (more := []) I e ru el (.inl rfl) fun w' s' I' r' => ⟨_, _, I', r', h⟩
      · exact h.elim
    · exact h.elim
  · split at h
    · rename_i k e ek
      cases rx
      obtain ⟨u, u2, rfl, ru, ru2⟩ := vals2 rs
      rw [keyOf_kV ek] at ru
      split at h
      · rename_i el
        exact d_pop I e ru el (.inr ⟨_, rfl⟩) fun w' s' I' r' => ⟨_, _, I', r', h⟩
      · rename_i el
        exact d_popD I e ru el fun s' I' => ⟨_, _, I', ru2, h⟩
    · exact h.elim
  · exact h.elim
theorem m_clearD : MtR X "dict.clear" mClearD := MtR_imp mtd_clear fun x vs H Q h => by
  unfold mClearD at h; split at h
  · split at h
    · rename_i e; exact ⟨_, _, rfl, rfl, e, h⟩
    · exact h.elim
  · exact h.elim
theorem m_join : MtR X "str.join" (mJoin X.K) := MtR_imp mt_join fun x vs H Q h => by
  unfold mJoin at h; split at h
  · obtain ⟨ys, e, hz, q⟩ := h
    exact ⟨_, _, ys, rfl, rfl, e.elim (fun e => .inl (look_lst e)) (fun e => .inr (look_tup e)), hz, q⟩
  · exact h.elim
theorem m_split : MtR X "str.split" mSplit := MtR_imp mt_split fun x vs H Q h => by
  unfold mSplit at h; split at h
  · exact ⟨_, _, rfl, rfl, h.1, h.2.1, h.2.2⟩
  · exact h.elim
theorem m_partition : MtR X "str.partition" mPartition := MtR_imp mt_partition fun x vs H Q h => by
  unfold mPartition at h; split at h
  · exact ⟨_, _, rfl, rfl, h.1, h.2.1, h.2.2⟩
  · exact h.elim
theorem m_indexS : MtR X "str.index" mIndexS := MtR_imp mt_sindex fun x vs H Q h => by
  unfold mIndexS at h; split at h
  · split at h
    · rename_i e; exact ⟨_, _, _, _, rfl, rfl, e, h⟩
    · exact h.elim
  · exact h.elim
theorem m_ends : MtR X "str.endswith" mEnds := MtR_imp mt_endswith fun x vs H Q h => by
  unfold mEnds at h; split at h
  · exact ⟨_, _, rfl, rfl, h⟩
  · exact h.elim
theorem m_countS : MtR X "str.count" mCountS := MtR_imp mt_count fun x vs H Q h => by
  unfold mCountS at h; split at h
  · exact ⟨_, _, rfl, rfl, h⟩
  · exact h.elim
theorem m_upper : MtR X "str.upper" mUpper := MtR_imp mt_upper fun x vs H Q h => by
  unfold mUpper at h; split at h
  · exact ⟨_, rfl, rfl, h.1, h.2⟩
  · exact h.elim
end
/-- the table -/
def bms (K : PySem.W.Frag) : List BM := [
  ⟨"list", "append", "list.append", mAppend⟩, ⟨"list", "extend", "list.extend", mExtend⟩, ⟨"list", "pop", "list.pop", mPopL⟩, ⟨"list", "reverse", "list.reverse", mReverse⟩, ⟨"list", "clear", "list.clear", mClearL⟩,
  ⟨"list", "insert", "list.insert", mInsert⟩, ⟨"list", "index", "list.index", mIndexL K⟩, ⟨"list", "count", "list.count", mCountL K⟩,
  ⟨"dict", "get", "dict.get", mGetD⟩, ⟨"dict", "pop", "dict.pop", mPopD⟩, ⟨"dict", "clear", "dict.clear", mClearD⟩,
  ⟨"str", "join", "str.join", mJoin K⟩, ⟨"str", "split", "str.split", mSplit⟩, ⟨"str", "partition", "str.partition", mPartition⟩, ⟨"str", "index", "str.index", mIndexS⟩, ⟨"str", "endswith", "str.endswith", mEnds⟩,
  ⟨"str", "count", "str.count", mCountS⟩, ⟨"str", "upper", "str.upper", mUpper⟩, ⟨"tuple", "index", "tuple.index", mIndexT K⟩]
theorem bms_ok {X : Cx} (hu : X.A.units + 1 < cLine) : ∀ b ∈ bms X.K, BMOk X b := by
  intro b hb
  simp only [bms, List.mem_cons, List.not_mem_nil, or_false] at hb
  rcases hb with rfl | rfl | rfl | rfl | rfl | rfl | rfl | rfl | rfl | rfl | rfl | rfl | rfl | rfl | rfl | rfl | rfl | rfl | rfl
  · exact ⟨PySem.F.plainAttrs_list, PySem.F.slot_list_append, PySem.F.type_list_append, m_append⟩
  · exact ⟨PySem.F.plainAttrs_list, PySem.F.slot_list_extend, PySem.F.type_list_extend, m_extend⟩
  · exact ⟨PySem.F.plainAttrs_list, PySem.F.slot_list_pop, PySem.F.type_list_pop, m_popL⟩
  · exact ⟨PySem.F.plainAttrs_list, PySem.F.slot_list_reverse, PySem.F.type_list_reverse, m_reverse⟩
  · exact ⟨PySem.F.plainAttrs_list, PySem.F.slot_list_clear, PySem.F.type_list_clear, m_clearL⟩
  · exact ⟨PySem.F.plainAttrs_list, PySem.F.slot_list_insert, PySem.F.type_list_insert, m_insert⟩
  · exact ⟨PySem.F.plainAttrs_list, PySem.F.slot_list_index, PySem.F.type_list_index, m_indexL⟩
  · exact ⟨PySem.F.plainAttrs_list, PySem.F.slot_list_count, PySem.F.type_list_count, m_countL⟩
  · exact ⟨PySem.F.plainAttrs_dict, PySem.F.slot_dict_get, PySem.F.type_dict_get, m_getD hu⟩
  · exact ⟨PySem.F.plainAttrs_dict, PySem.F.slot_dict_pop, PySem.F.type_dict_pop, m_popD⟩
  · exact ⟨PySem.F.plainAttrs_dict, PySem.F.slot_dict_clear, PySem.F.type_dict_clear, m_clearD⟩
  · exact ⟨PySem.F.plainAttrs_str, PySem.F.slot_str_join, PySem.F.type_str_join, m_join⟩
  · exact ⟨PySem.F.plainAttrs_str, PySem.F.slot_str_split, PySem.F.type_str_split, m_split⟩
  · exact ⟨PySem.F.plainAttrs_str, PySem.F.slot_str_partition, PySem.F.type_str_partition, m_partition⟩
  · exact ⟨PySem.F.plainAttrs_str, PySem.F.slot_str_index, PySem.F.type_str_index, m_indexS⟩
  · exact ⟨PySem.F.plainAttrs_str, PySem.F.slot_str_endswith, PySem.F.type_str_endswith, m_ends⟩
  · exact ⟨PySem.F.plainAttrs_str, PySem.F.slot_str_count, PySem.F.type_str_count, m_countS⟩
  · exact ⟨PySem.F.plainAttrs_str, PySem.F.slot_str_upper, PySem.F.type_str_upper, m_upper⟩
  · exact ⟨PySem.F.plainAttrs_tuple, PySem.F.slot_tuple_index, PySem.F.type_tuple_index, m_indexT⟩

/-! ## 13. a method's call, by what the receiver is -/
def tyB (K : PySem.W.Frag) (H : Hp) (x : V) : Option String := match x with
  | .str _ => some "str"
  | .ref p => (match look K H p with
    | some (.lst _) => some "list"
    | some (.tup _) => if tupB K p = true then some "tuple" else none
    | _ => (match H p with
      | some (.dK _) => some "dict"
      | some (.dT _) => some "dict"
      | some (.set _ _) => some "set"
      | _ => none))
  | _ => none
theorem tyB_ok {K : PySem.W.Frag} {H : Hp} {x : V} {T : String} (h : tyB K H x = some T) : tyV K T x H := by
  unfold tyB at h
  split at h
  · cases h; exact rfl
  · split at h
    · rename_i e; cases h; exact .inl ⟨rfl, _, look_lst e⟩
    · split at h
      · rename_i e; cases h; exact .inr (.inl ⟨rfl, tupB_ok e⟩)
      · cases h
    · split at h
      · rename_i e; cases h; exact .inr (.inr (.inl ⟨rfl, .inl ⟨_, e⟩⟩))
      · rename_i e; cases h; exact .inr (.inr (.inl ⟨rfl, .inr ⟨_, e⟩⟩))
      · rename_i e; cases h; exact .inr (.inr (.inr ⟨rfl, _, _, e⟩))
      · cases h
  · cases h
def insOf (H : Hp) (x : V) : Option (Addr × Addr × List (Str × V)) := match x with
  | .ref a => (match H a with
    | some (.ins C dx fs) => some (a, C, fs)
    | _ => none)
  | _ => none
theorem insOf_ok {H : Hp} {x : V} {a C : Addr} {fs : List (Str × V)} (h : insOf H x = some (a, C, fs)) : ∃ dx, x = .ref a ∧ H a = some (.ins C dx fs) := by
  unfold insOf at h
  split at h
  · split at h
    · rename_i e; cases h; exact ⟨_, rfl, e⟩
    · cases h
  · cases h
def cMeth (K : PySem.W.Frag) (m : Str) (n nk : Nat) (cands : List MtI) (bs : List BM) (ta : TE) (t tk : TA) (W : WX) : TE := fun σ H Q => ta σ H fun x H1 =>
  match insOf H1 x with
  | some (_, C, fs) => fs.lookup m = none ∧ ∃ c ∈ cands, c.cls = C ∧ t σ H1 fun vs H2 => tk σ H2 fun zs H3 => vs.length = n ∧ zs.length = nk ∧ c.sp (x :: c.arr vs zs) H3 Q (fun cls d H' => W cls d σ H')
  | none => (match tyB K H1 x with
    | some T => (match bs.find? (fun b => b.T == T) with
      | some b => nk = 0 ∧ t σ H1 fun vs H2 => b.r x vs H2 Q
      | none => False)
    | none => False)
section
variable {g : G} {lev : Nat} {X : Cx} {N : List Str} {sc : Scope} {W : WX}
theorem pe_methG {o : Expr} {m : Str} {apos pos : Pos} {es : List Expr} {kws : List Keyword} {ks : List Str} {ta : TE} {t tk : TA} {cands : List MtI} {bs : List BM} (c : COk g lev X N sc W) (hb : baseOk o = true) (hstar : es.all notStar = true) (hkw : kwNames kws = some ks)
    (hfew : es.length + kws.length < 29) (hline : (apos.endLine == pos.line) = true) (hc : ∀ i ∈ cands, i ∈ g.mts ∧ i.name = m ∧ i.n = es.length ∧ i.ks = ks) (hbs : ∀ b ∈ bs, BMOk X b ∧ b.name = m)
    (hnil : es = [] → t = tNil) (hknil : kws = [] → tk = tNil) (ho : PE X o ta) (ha : PA X es t) (hw : PK X kws tk) : PE X (.Call (.Attribute o m apos) es kws pos) (cMeth g.K m es.length ks.length cands bs ta t tk W) := by
  refine ⟨fun pins s σ H Q I h => ?_⟩
  refine meth_gen hb hstar hkw hfew hline (thn (ho.run pins s σ H _ I h) fun ov s1 ⟨x, H1, I1, rx, q1⟩ pl => ?_)
  dsimp only at q1
  split at q1
  · rename_i a C fs e
    obtain ⟨l, i, hi, hC, q1⟩ := q1
    obtain ⟨dx, rfl, ea⟩ := insOf_ok e
    obtain ⟨hm, hn, hnn, hks⟩ := hc i hi
    obtain ⟨fa, fd, ps, gf, cl, me, F, kb⟩ := c.gok.mts i hm
    rw [hC] at cl me
    rw [hn] at me
    rw [hnn, hks] at kb
    rw [← c.hK] at cl me F kb
    cases rx
    refine getmeth_ok I1 ea cl me l ?_
    refine args_of (first := [.ref a]) (R := fun vs zs H2 => vs.length = es.length ∧ zs.length = ks.length ∧ i.sp (.ref a :: i.arr vs zs) H2 Q (fun cls d H' => W cls d σ H')) (keeps_ref me.kp) hnil hstar hkw ha hw I1 q1 fun vs zs us ws s2 H2 I2 r rz q => ?_
    exact run_own (vs := .ref a :: vs) (us := .ref a :: us) F c.room0 c.gd kb c.tk I2 (.cons rfl r) rz (by rw [List.length_cons, q.1]) q.2.1 q.2.2
  · split at q1
    · rename_i T eT
      split at q1
      · rename_i b eb
        obtain ⟨hz, q1⟩ := q1
        have hbm : b ∈ bs := List.mem_of_find?_eq_some eb
        have hT : b.T = T := by have := List.find?_some eb; exact beq_iff_eq.mp this
        obtain ⟨ok, hn⟩ := hbs b hbm
        obtain ⟨h1, h2⟩ := tyV_is I1 rx (by rw [c.hK]; exact tyB_ok eT)
        have hkz : ks = [] := List.length_eq_zero_iff.mp hz
        subst hkz
        have hkws : kws = [] := by
          have := (kw_all (env := X.env) (pos := pos) hkw).2.2.2
          exact List.length_eq_zero_iff.mp this.symm
        subst hkws
        rw [hknil rfl] at hw
        refine getMethod_builtin (T := T) (id := b.id) h1 (hT ▸ ok.pa) (hn ▸ hT ▸ ok.slot) ok.ty h2 ?_
        refine args_of (tk := tNil) (ks := []) (first := [ov]) (R := fun vs zs H2 => zs = [] ∧ b.r x vs H2 Q) keeps_blt hnil hstar hkw ha hw I1 (?_ : t σ H1 fun vs H2 => tNil σ H2 fun zs H3 => zs = [] ∧ b.r x vs H3 Q) fun vs zs us ws s2 H2 I2 r rz q => ?_
        · have e : (fun (vs : List V) (H2 : Hp) => tNil σ H2 fun zs H3 => zs = [] ∧ b.r x vs H3 Q) = fun vs H2 => b.r x vs H2 Q := by
            funext vs H2
            exact propext ⟨fun z => z.2, fun z => ⟨rfl, z⟩⟩
          rw [e]
          exact q1
        · obtain ⟨rfl, q⟩ := q
          exact ok.run pins s2 σ H2 x vs ov us Q I2 rx r q
      · exact q1.elim
    · exact q1.elim
end
end WR

set_option Elab.async false
set_option linter.all false
set_option maxRecDepth 100000
set_option maxHeartbeats 4000000
namespace WR
open PySem PySem.Spec PyProof.Rows L2

theorem ownB_ok {K : PySem.W.Frag} {C : Addr} (h : ownB K C = true) : PySem.W.findIn K (.ref C) "__ne__" = some (some (.builtin "object.__ne__")) ∧ PySem.W.findIn K (.ref C) "__class__" = some (some (.builtin "object.__class__")) ∧
    PySem.W.specialIn K (.builtin "object.__class__") "__get__" = some (some (.builtin "getset_descriptor.__get__")) ∧ PySem.W.takesIn K (.builtin "object.__class__") = some true ∧ PySem.W.mroIn K C (.type "object") = some true ∧
    PySem.W.kitOne K (.ref C) (.ref C) = some true ∧ ∀ n ∈ basics, PySem.W.kitOne K (.type n) (.ref C) = some false := by
  unfold ownB at h
  simp only [Bool.and_eq_true, decide_eq_true_eq, List.all_eq_true] at h
  obtain ⟨h1, h2, h3, h4, h5, h6, h7⟩ := h
  exact ⟨h1, h2, h3, h4, h5, h6, h7⟩
/-! ## the text's own specials: len, ==, !=, str, bool of an own class's instances -/
/-! ## dicts compared deeply -/
inductive DpKv (K : PySem.W.Frag) (H : Hp) : List (Key × V) → List (Key × PyData) → Prop
  | nil : DpKv K H [] []
  | cons {k : Key} {v : V} {d : PyData} {kvs : List (Key × V)} {ds : List (Key × PyData)} (h : Dp K H v d) (s : SeqAt.shaped d = true) (r : DpKv K H kvs ds) : DpKv K H ((k, v) :: kvs) ((k, d) :: ds)
def dat (es : List (Key × PyData)) (k : Key) : Option PyData := (es.find? fun p => decide (p.1 = k)).map (·.2)
def eqKv (ds es : List (Key × PyData)) : Bool := ds.all fun p => match dat es p.1 with | some e => PyData.eqv p.2 e | none => false
theorem DpKv.len {K : PySem.W.Frag} {H : Hp} {ks : List (Key × V)} {ds : List (Key × PyData)} (h : DpKv K H ks ds) : ks.length = ds.length := by
  induction h with
  | nil => rfl
  | cons _ _ _ ih => simp [ih]
theorem DpKv.get {K : PySem.W.Frag} {H : Hp} {k : Key} {ks : List (Key × V)} {ds : List (Key × PyData)} (h : DpKv K H ks ds) : (valV ks k = none ∧ dat ds k = none) ∨ ∃ v d, valV ks k = some v ∧ dat ds k = some d ∧ Dp K H v d ∧ SeqAt.shaped d = true := by
  induction h with
  | nil => exact .inl ⟨rfl, rfl⟩
  | @cons k' v d kvs ds h s r ih =>
    by_cases e : k' = k
    · exact .inr ⟨v, d, valV_pos e, by simp [dat, e], h, s⟩
    · rw [valV_neg e]
      have : dat ((k', d) :: ds) k = dat ds k := by simp [dat, List.find?_cons, e]
      rw [this]; exact ih
theorem hits_deep {X : Cx} {pins : List (Addr × Obj)} {σ : St} {H : Hp} {s : Shared} {A : Around} {ls : List (Key × V)} {vb : List (Key × Value)} {es : List (Key × PyData)} (I : Inv X pins σ H s) (hu : A.in1.units + 64 < cLine) (rb : KV ls vb) (he : DpKv X.K H ls es) :
    ∀ {ks : List (Key × V)} {va : List (Key × Value)} {ds : List (Key × PyData)}, KV ks va → DpKv X.K H ks ds → PySem.W.KeqHits A.in1 s vb va (eqKv ds es) := by
  intro ks va ds ra hd
  induction hd generalizing va with
  | nil => cases ra; exact .nil
  | @cons k v d kvs ds h sh r ih =>
    cases ra with
    | @cons _ q _ vr h1 t =>
      obtain ⟨k', u⟩ := q
      obtain ⟨rfl, ru⟩ := h1
      have rl := rb.val k
      rcases he.get (k := k) with ⟨a, b⟩ | ⟨y, e, a, b, hy, se⟩
      · rw [a] at rl
        have hn : valueAt vb k = none := by
          cases q : valueAt vb k with
          | none => rfl
          | some w => rw [q] at rl; exact rl.elim
        have e : eqKv ((k, d) :: ds) es = false := by simp [eqKv, b]
        rw [e]
        exact .miss hn
      · rw [a] at rl
        obtain ⟨w, hw, rw'⟩ : ∃ w, valueAt vb k = some w ∧ RelV y w := by
          cases q : valueAt vb k with
          | none => rw [q] at rl; exact rl.elim
          | some w => rw [q] at rl; exact ⟨w, rfl, rl⟩
        have e1 : eqKv ((k, d) :: ds) es = (PyData.eqv d e && eqKv ds es) := by simp [eqKv, b]
        rw [e1]
        obtain ⟨as, r1⟩ := Dp.reads I d v u h ru
        obtain ⟨bs, r2⟩ := Dp.reads I e y w hy rw'
        exact .hit hw (PySem.W.keq_at r1 r2 sh se hu) (ih t)
def rEqDD (K : PySem.W.Frag) : R2 := fun x y H Q => ∃ a b ks ls ds es, x = .ref a ∧ y = .ref b ∧ H a = some (.dK ks) ∧ H b = some (.dK ls) ∧ DpKv K H ks ds ∧ DpKv K H ls es ∧ Q (.bl (ks.length == ls.length && eqKv ds es)) H
def rNeDD (K : PySem.W.Frag) : R2 := fun x y H Q => ∃ a b ks ls ds es, x = .ref a ∧ y = .ref b ∧ H a = some (.dK ks) ∧ H b = some (.dK ls) ∧ DpKv K H ks ds ∧ DpKv K H ls es ∧ Q (.bl (!(ks.length == ls.length && eqKv ds es))) H
theorem op_eqDD {X : Cx} (hu : X.A.units + 65 < cLine) : OpR X (compareOp .Eq) (rEqDD X.K) := by
  intro pins s σ H x y v u Q I rx ry h
  obtain ⟨a, b, ks, ls, ds, es, rfl, rfl, ea, eb, hd, he, q⟩ := h
  obtain rfl : v = Value.ref a := rx
  obtain rfl : u = Value.ref b := ry
  obtain ⟨_, ya, va, ra, da⟩ := (show ObjOk X.prog X.w H s.heap a (.dK ks) from I.hok a _ ea)
  obtain ⟨_, yb, vb, rb, db⟩ := (show ObjOk X.prog X.w H s.heap b (.dK ls) from I.hok b _ eb)
  refine PySem.W.keq_eq (knd := mixKind X.prog X.w) ya yb da db (by omega) (fun _ => hits_deep I (by show X.A.units + 1 + 64 < _; omega) rb he ra hd) ⟨.bl _, H, I, ?_, q⟩
  rw [ra.length, rb.length]
  rfl
theorem op_neDD {X : Cx} (hu : X.A.units + 65 < cLine) : OpR X (compareOp .NotEq) (rNeDD X.K) := by
  intro pins s σ H x y v u Q I rx ry h
  obtain ⟨a, b, ks, ls, ds, es, rfl, rfl, ea, eb, hd, he, q⟩ := h
  obtain rfl : v = Value.ref a := rx
  obtain rfl : u = Value.ref b := ry
  obtain ⟨_, ya, va, ra, da⟩ := (show ObjOk X.prog X.w H s.heap a (.dK ks) from I.hok a _ ea)
  obtain ⟨_, yb, vb, rb, db⟩ := (show ObjOk X.prog X.w H s.heap b (.dK ls) from I.hok b _ eb)
  refine PySem.W.keq_ne (knd := mixKind X.prog X.w) ya yb da db (by omega) (fun _ => hits_deep I (by show X.A.units + 1 + 64 < _; omega) rb he ra hd) ⟨.bl _, H, I, ?_, q⟩
  rw [ra.length, rb.length]
  rfl
/-- own methods that fit -/
def cands (g : G) (m : Str) (n : Nat) : List MtI := g.mts.filter fun i => decide (i.name = m) && (decide (i.n = n) && decide (i.ks = []))
theorem cands_ok {g : G} {m : Str} {n : Nat} {c : MtI} (h : c ∈ cands g m n) : c ∈ g.mts ∧ c.name = m ∧ c.n = n ∧ c.ks = [] := by
  unfold cands at h
  have := List.mem_filter.mp h
  simp only [Bool.and_eq_true, decide_eq_true_eq] at this
  exact ⟨this.1, this.2.1, this.2.2.1, this.2.2.2⟩
/-- what an own special of the class at C does with these values; no exception leaves it -/
def spc (g : G) (m : Str) (C : Addr) (x : V) (vs : List V) (H : Hp) (Q : VK) : Prop := ∃ c ∈ cands g m vs.length, c.cls = C ∧ c.sp (x :: c.arr vs []) H Q (fun _ _ _ => False)
def bLenG (g : G) : RC := fun xs H Q => match xs with
  | [x] => (match insOf H x with
    | some (_, C, _) => spc g "__len__" C x [] H fun v H' => match v with
        | .int n => (0 ≤ n ∧ n < 2 ^ 63) ∧ Q (.int n) H'
        | _ => False
    | none => bLen g.K xs H Q)
  | _ => False
def bStrG (g : G) : RC := fun xs H Q => match xs with
  | [x] => (match insOf H x with
    | some (_, C, _) => spc g "__str__" C x [] H fun v H' => match v with
        | .str y => Q (.str y) H'
        | _ => False
    | none => bStrOf xs H Q)
  | _ => False
def bBoolG (g : G) : RC := fun xs H Q => match xs with
  | [.int i] => Q (.bl (i != 0)) H
  | [.bl b] => Q (.bl b) H
  | [x] => (match insOf H x with
    | some (_, C, _) => (∃ cs, g.ats.lookup ("__bool__" : Str) = some cs ∧ C ∈ cs) ∧ spc g "__len__" C x [] H fun v H' => match v with
        | .int n => (0 ≤ n ∧ n < 2 ^ 63) ∧ Q (.bl (n != 0)) H'
        | _ => False
    | none => False)
  | _ => False
def eqOk (g : G) (C : Addr) (H : Hp) (y : V) : Prop := (tyN g.K H y).isSome = true ∨ ∃ b fs, insOf H y = some (b, C, fs)
def oEqG0 (g : G) : R2 := fun x y H Q => match insOf H x with
  | some (_, C, _) => eqOk g C H y ∧ spc g "__eq__" C x [y] H fun v H' => match v with
      | .bl b => Q (.bl b) H'
      | _ => False
  | none => oEq g.K x y H Q ∨ rEqDD g.K x y H Q
def oNeG (g : G) : R2 := fun x y H Q => match insOf H x with
  | some (_, C, _) => (∃ p ∈ g.nes, p.2 = C) ∧ eqOk g C H y ∧ spc g "__eq__" C x [y] H fun v H' => match v with
      | .bl b => Q (.bl (!b)) H'
      | _ => False
  | none => oNe g.K x y H Q ∨ rNeDD g.K x y H Q ∨ rNeM g.K x y H Q

section
variable {g : G} {lev : Nat} {X : Cx} {N : List Str} {sc : Scope} {W : WX}
theorem room_in3 {k : Nat} {A : Around} (r : Room (k + 1) A) : Room k A.in1.in1.in1 :=
  ⟨r.hd, by have := r.dp; show A.depth + 3 * k + 5 < _; omega, by have := r.un; show A.units + 1 + 1 + 1 + 16 * k + 200 < _; omega⟩
theorem room_in2 {k : Nat} {A : Around} (r : Room (k + 1) A) : Room k A.in1.in1 :=
  ⟨r.hd, by have := r.dp; show A.depth + 3 * k + 5 < _; omega, by have := r.un; show A.units + 1 + 1 + 16 * k + 200 < _; omega⟩
/-- an own def called somewhere below, no exception leaving it -/
theorem run_below {A : Around} {fa : Addr} {fd : FuncData} {ps : List Str} {sp : Sp} {n : Nat} {gf : List Value → List Value → List Value} {arr : List V → List V → List V} {pins : List (Addr × Obj)} {σ : St} {H : Hp} {s : Shared} {Q : VK} {us : List Value} {vs : List V}
    (hr : Room lev A) (gd : A.guards = some []) (hfr : A.frames = X.A.frames) (F : FnW X.prog X.w X.K X.mg X.base (L2N.CX X.prog X.w) lev fa fd ps sp) (hb : KBn X.K fd ps n [] gf arr)
    (I : Inv X pins σ H s) (r : Vals vs us) (l1 : vs.length = n) (h : sp (arr vs []) H Q (fun _ _ _ => False)) {E : Value → Shared → Prop} : wpAny (model X.prog X.w) A (call (.ref fa) us) (EP X pins σ Q) E s := by
  have r2 := hb.rel r (zs := []) (ws := []) .nil
  have e0 : Env0 X.prog X.w X.K X.mg X.base A X.stack s H := by
    have e := I.env0
    exact ⟨by rw [hfr]; exact e.frames, e.mod, e.bs, e.bsz, e.funs, e.frf, e.hok, e.bare⟩
  refine wpAny_call (codeAny_mono (F.run A X.stack s H ⟨us, []⟩ (gf us []) (arr vs []) Q _ hr gd e0 (hb.to s us [] I.kIn (r.length.symm.trans l1) rfl) r2 h) fun r s' hq => ?_)
  cases r with
  | error e => obtain ⟨_, _, _, _, _, _, _, _, _, _, _, _, z⟩ := hq; exact z.elim
  | ok fl =>
    cases fl with
    | ret u => exact I.after hq
    | next => exact False.elim hq
    | brk => exact False.elim hq
    | cont => exact False.elim hq
/-- an own special's parts -/
theorem spc_get (c : COk g lev X N sc W) {m : Str} {C a : Addr} {vs : List V} {us : List Value} {H : Hp} {Q : VK} (h : spc g m C (.ref a) vs H Q) : ∃ fa, PySem.W.findIn X.K (.ref C) m = some (some (.ref fa)) ∧ PySem.W.isFn X.K (.ref fa) = true ∧ Cls X.K C ∧
    ∀ {A : Around} {pins : List (Addr × Obj)} {σ : St} {s : Shared} {E : Value → Shared → Prop}, Room lev A → A.guards = some [] → A.frames = X.A.frames → Inv X pins σ H s → Vals vs us → wpAny (model X.prog X.w) A (call (.ref fa) (.ref a :: us)) (EP X pins σ Q) E s := by
  obtain ⟨i, hi, hC, q⟩ := h
  obtain ⟨i1, i2, i3, i4⟩ := cands_ok hi
  obtain ⟨fa, fd, ps, gf, cl, me, F, kb⟩ := c.gok.mts i i1
  rw [hC] at cl me
  rw [i2] at me
  rw [i3, i4] at kb
  rw [← c.hK] at cl me F kb
  refine ⟨fa, me.at_, me.fn, cl, fun hr gd hf I r => ?_⟩
  exact run_below (vs := .ref a :: vs) hr gd hf F kb I (.cons rfl r) (by rw [List.length_cons]) q
theorem b_lenG (c : COk g lev X N sc W) (hl : CallR X (.builtin "len") (bLen g.K)) : CallR X (.builtin "len") (bLenG g) := by
  intro pins s σ H xs us Q I r h
  unfold bLenG at h
  split at h
  · rename_i x
    split at h
    · rename_i a C fs e
      obtain ⟨dx, rfl, ea⟩ := insOf_ok e
      obtain ⟨u, rfl, ru⟩ := vals1 r
      cases ru
      obtain ⟨fa, h1, h2, cl, run⟩ := spc_get (us := []) c h
      obtain ⟨mA, J, _⟩ := ins_get I.hok ea
      obtain ⟨od, J, _⟩ := J.look
      obtain ⟨m, hF⟩ := I.fr
      refine PySem.W.len_K hF I.ok.mod.kin J h1 h2 (wpAny_mono (run (c.room.in1) c.gd rfl I .nil) (fun u s' z => ?_) fun _ _ z => z)
      obtain ⟨v, H', I', rv, q⟩ := z
      cases v <;> first | exact q.elim | skip
      obtain ⟨t, rfl⟩ := rv
      exact ⟨q.1, ⟨.int _, H', I'.tok _, ⟨_, rfl⟩, q.2⟩⟩
    · exact hl pins s σ H _ us Q I r h
  · exact h.elim
theorem b_strG (c : COk g lev X N sc W) : CallR X (.type "str") (bStrG g) := by
  intro pins s σ H xs us Q I r h
  unfold bStrG at h
  split at h
  · rename_i x
    split at h
    · rename_i a C fs e
      obtain ⟨dx, rfl, ea⟩ := insOf_ok e
      obtain ⟨u, rfl, ru⟩ := vals1 r
      cases ru
      obtain ⟨fa, h1, h2, cl, run⟩ := spc_get (us := []) c h
      obtain ⟨mA, J, _⟩ := ins_get I.hok ea
      obtain ⟨od, J, _⟩ := J.look
      refine PySem.W.kso_call (by have := c.room.un; show X.A.units + 1 + 1 < _; omega) I.kIn J h1 h2 (wpAny_mono (run (room_in2 c.room) c.gd rfl I .nil) (fun u s' z => ?_) fun _ _ z => z)
      obtain ⟨v, H', I', rv, q⟩ := z
      cases v <;> first | exact q.elim | skip
      obtain ⟨t, rfl⟩ := rv
      exact ⟨.str _, H', I', ⟨_, rfl⟩, q⟩
    · exact b_str pins s σ H _ us Q I r h
  · exact h.elim
/-! ### == and != -/
theorem sub_no {K : PySem.W.Frag} {C : Addr} {n : String} {H : Hp} {x : V} (h : tyN K H x = some n) : PySem.W.notFirst K C (.type n) = true := by
  have key : ∀ m : String, m ∈ ["NoneType", "bool", "int", "str", "list", "tuple", "dict"] → PySem.W.notFirst K C (.type m) = true := by
    intro m hm
    simp only [List.mem_cons, List.not_mem_nil, or_false] at hm
    rcases hm with rfl | rfl | rfl | rfl | rfl | rfl | rfl <;> (first | rfl | kernel_rfl)
  refine key n ?_
  unfold tyN at h
  split at h
  all_goals try (cases h <;> simp)
  split at h
  all_goals try (cases h <;> simp)
  split at h <;> cases h <;> simp
theorem eq_looks {pins : List (Addr × Obj)} {σ : St} {H : Hp} {s : Shared} {C : Addr} {y : V} {v : Value} (c : COk g lev X N sc W) (I : Inv X pins σ H s) (ry : RelV y v) (h : eqOk g C H y) :
    ∃ tb, PySem.W.Looks (model X.prog X.w) s.heap (typeOf v) tb ∧ PySem.W.notFirst X.K C tb = true := by
  rcases h with h | ⟨b, fs, h⟩
  · cases e : tyN g.K H y with
    | none => rw [e] at h; cases h
    | some n =>
      have e2 := e
      rw [← c.hK] at e
      obtain ⟨P, Z, p, _⟩ := kit_of I ry (tyN_ok e)
      exact ⟨_, Z.ty _ _ I.kIn p, sub_no e⟩
  · obtain ⟨dx, rfl, ea⟩ := insOf_ok h
    cases ry
    obtain ⟨mA, J, _⟩ := ins_get I.hok ea
    obtain ⟨od, J, _⟩ := J.look
    exact ⟨_, J.type, by simp [PySem.W.notFirst]⟩
theorem r_eqG0 (c : COk g lev X N sc W) (ho : OpR X (compareOp .Eq) (oEq g.K)) : OpR X (compareOp .Eq) (oEqG0 g) := by
  intro pins s σ H x y v u Q I rx ry h
  unfold oEqG0 at h
  split at h
  · rename_i a C fs e
    obtain ⟨dx, rfl, ea⟩ := insOf_ok e
    cases rx
    obtain ⟨hy, h⟩ := h
    obtain ⟨tb, hb, hn⟩ := eq_looks c I ry hy
    obtain ⟨fa, h1, h2, cl, run⟩ := spc_get (us := [u]) c h
    obtain ⟨mA, J, _⟩ := ins_get I.hok ea
    obtain ⟨od, J, _⟩ := J.look
    obtain ⟨m, hF⟩ := I.fr
    show wpAny (model X.prog X.w) X.A (richCompare .Eq (.ref a) u) _ _ _
    refine PySem.W.cmp_K (op := .Eq) (by have := c.room.un; omega) hF I.ok.mod.kin J hb hn h1 h2 (wpAny_mono (run c.room0 c.gd rfl I (.cons ry .nil)) (fun r s' z => ?_) fun _ _ z => z)
    obtain ⟨w, H', I', rv, q⟩ := z
    cases w <;> first | exact q.elim | skip
    cases rv
    exact ⟨.bl _, H', I', rfl, q⟩
  · rcases h with h | h
    · exact ho pins s σ H x y v u Q I rx ry h
    · rw [← c.hK] at h
      exact op_eqDD (by have := c.room.un; omega) pins s σ H x y v u Q I rx ry h
end
end WR
namespace PySem.W
open PySem PySem.Spec PySem.Calls PyProof.Rows PySem.Builtin
section
variable {prog : Program} {w : World} {A : Around} {E : Value → Shared → Prop} {s : Shared} {K : Frag} {x C L f : Addr} {h₀ : Heap} {m : Str → Option Value} {ox : Obj} {od : Option Obj} {name : Str} {b tb : Value}
theorem wr_ifBoundB {M : Model} {id : String} {args : List Value} {Q : Option Value → Shared → Prop} (X : K.In s.heap) (I : InstAt s.heap x ox C od) (hs : findIn K (.ref C) name = some (some (.builtin id))) (hb : ∀ self, bindSpecial (.builtin id) self = pure (.builtin id, [self]))
    (h : wpAny M A (call (.builtin id) (.ref x :: args)) (fun v => Q (some v)) E s) : wpAny M A (callSpecialIfBound? (.ref x) name args) Q E s := by
  simp only [callSpecialIfBound?, bindSpecialIfBound?]
  refine wpAny_holding (wpAny_bind (wpAny_bind (wpAny_bind (I.type.here ((looks_findIn X hs).here ?_)))))
  refine wpAny_bind (wpAny_askSetting (wpAny_ite ?_))
  have fin : wpAny M A (call (.builtin id) ([.ref x] ++ args) >>= fun v => pure (some v)) Q E s := wpAny_bind (wpAny_mono h (fun v s' h' => wpAny_pure h') fun _ _ h' => h')
  split
  · exact wpAny_bind ((Looks.of_pure (hb _)).here (wpAny_pure (by exact fin)))
  · exact wpAny_tryCatch (wpAny_bind ((Looks.of_pure (hb _)).here (wpAny_pure (by exact fin))))
theorem wr_ne {Q : Value → Shared → Prop} (hu : A.units + 1 < cLine) (X : K.In s.heap) (I : InstAt s.heap x ox C od) (hb : Looks (model prog w) s.heap (typeOf b) tb) (hn : notFirst K C tb = true)
    (hne : findIn K (.ref C) "__ne__" = some (some (.builtin "object.__ne__"))) (hm : Looks (model prog w) s.heap (isInstance (.ref x) (.type "object")) true) (hs : findIn K (.ref C) "__eq__" = some (some (.ref f))) (hf : isFn K (.ref f) = true)
    (h : wpAny (model prog w) A.in1 (call (.ref f) [.ref x, b]) (fun v s' => ∃ r, v = .bool r ∧ Q (.bool (!r)) s') E s) : wpAny (model prog w) A (richCompare .NotEq (.ref x) b) Q E s := by
  have one : wpAny (model prog w) A (tryCompare (.ref x) "__ne__" b) (fun r s' => ∃ v, r = some v ∧ Q v s') E s := by
    unfold tryCompare
    refine wpAny_bind (wr_ifBoundB (id := "object.__ne__") X I hne PySem.F.slot_zip_ne.bind (wpAny_call (codeAny_call_builtin PySem.F.slot_zip_ne.plain F.cmpEntry_ne (check_slot F.cmpKind_ne F.cmpSplit_ne hm (F.cmpArgs_ne _ _) ?_))))
    unfold Builtin.«object.__ne__»
    refine wpAny_bind (m := slotArgs "__ne__" 1 _) (wpAny_pure ?_)
    refine wpAny_bind (wpAny_cRoomFor hu ?_)
    refine wpAny_bind (m := callSpecialIfBound? (.ref x) (Str.ofString "__eq__") [b]) (ifBound_K X I hs hf (wpAny_mono h (fun v s' hv => ?_) fun _ _ e => e))
    obtain ⟨r, rfl, hq⟩ := hv
    refine wpAny_bind (m := truthy (.bool r)) (wpAny_truthy_bool ?_)
    first | exact wpAny_pure ⟨_, rfl, wpAny_pure ⟨_, rfl, hq⟩⟩ | exact wpAny_pure (wpAny_pure ⟨_, rfl, hq⟩) | exact wpAny_pure ⟨_, rfl, hq⟩ | exact wpAny_pure ⟨_, rfl, wpAny_pure hq⟩
  unfold richCompare
  simp only [oneThing_ref]
  refine wpAny_holding (wpAny_bind (wpAny_cRoomFor (Nat.lt_of_succ_lt hu) ?_))
  refine wpAny_bind (I.type.here (wpAny_bind (hb.here ?_)))
  rw [cmpInfo_NotEq]
  dsimp only
  split
  · rename_i q
    have e : subIn K tb (.ref C) = some false := by
      rcases Bool.or_eq_true_iff.mp hn with e | e
      · rw [beq_iff_eq.mp e] at q; simp at q
      · exact beq_iff_eq.mp e
    refine wpAny_bind ((looks_subIn X e).here ?_)
    simp only [Bool.false_eq_true, if_false]
    refine wpAny_bind (wpAny_mono one (fun r s' z => ?_) fun _ _ e => e)
    obtain ⟨v, rfl, hq⟩ := z
    exact wpAny_pure hq
  · refine wpAny_bind (wpAny_pure ?_)
    simp only [Bool.false_eq_true, if_false]
    refine wpAny_bind (wpAny_mono one (fun r s' z => ?_) fun _ _ e => e)
    obtain ⟨v, rfl, hq⟩ := z
    exact wpAny_pure hq
theorem wr_truthy {Q : Bool → Shared → Prop} (X : K.In s.heap) (I : InstAt s.heap x ox C od) (hb : findIn K (.ref C) "__bool__" = some none) (hs : findIn K (.ref C) "__len__" = some (some (.ref f))) (hf : isFn K (.ref f) = true)
    (h : wpAny (model prog w) A.in1 (call (.ref f) [.ref x]) (fun r s' => ∃ n u, r = .int n u ∧ (0 ≤ n ∧ n < 2 ^ 63) ∧ Q (n != 0) { s' with toks := s'.toks + 1 }) E s) : wpAny (model prog w) A (truthy (.ref x)) Q E s := by
  have key : wpAny (model prog w) A (runValue (.builtin "len" ⟨[.ref x], []⟩)) (fun r s' => ∃ n t, r = .int n t ∧ Q (n != 0) s') E s := by
    refine wpAny_runValue (codeAny_builtin entry_len ?_)
    rw [Around.under_plainId plain_len _]
    unfold Builtin.«len»
    refine wpAny_bind (m := oneArg "len" _) (wpAny_pure ?_)
    refine wpAny_bind (m := callSpecial? (.ref x) (Str.ofString "__len__")) (special_fn X I hs (beq_iff_eq.mp hf) (wpAny_mono h (fun r s' hr => ?_) fun _ _ y => y))
    obtain ⟨n, u, rfl, ⟨h0, h1⟩, hq⟩ := hr
    refine wpAny_bind (wpAny_holding (wpAny_pure ?_))
    refine wpAny_bind (wpAny_letGo ?_)
    show wpAny _ _ (if n < 0 then _ else _) _ _ _
    rw [if_neg (by omega)]
    show wpAny _ _ (if n ≥ 2 ^ 63 then _ else _) _ _ _
    rw [if_neg (by omega)]
    exact wpAny_bind (wpAny_mkInt (wpAny_pure ⟨_, _, rfl, hq⟩))
  unfold truthy
  refine wpAny_bind (m := callSpecial? (.ref x) (Str.ofString "__bool__")) ?_
  refine wpAny_bind (wpAny_bind (I.type.here ((looks_findIn X hb).here ?_)))
  refine wpAny_pure ?_
  refine wpAny_bind (wpAny_bind (I.type.here ((looks_findIn X hs).here ?_)))
  show wpAny _ _ (if (some (Value.ref f)).isNone = true then _ else _) _ _ _
  rw [if_neg (by simp)]
  refine wpAny_bind (m := runValue _) (wpAny_mono key (fun v s' hv => ?_) fun _ _ e => e)
  obtain ⟨n, t, rfl, hq⟩ := hv
  exact wpAny_pure hq
theorem wr_bool {Q : Value → Shared → Prop} (h : wpAny (model prog w) A.in1.in1 (truthy (.ref x)) (fun b s' => Q (.bool b) s') E s) : wpAny (model prog w) A (call (.type "bool") [.ref x]) Q E s := by
  refine callType_newIn F.called_bool (by decide) (F.typeCall_bool_1 _) (F.newCall_bool_1 _) (fun obj => F.args_object_init_2 obj _) F.entry_bool_new (S := fun A R s => wpAny (model prog w) A.in1 (truthy (.ref x)) (fun b s' => R (.ok (.ret (.bool b))) s') (fun e s' => R (.error e) s') s) (MeetsIn.of_wp fun A R s hq => ?_) ?_
  · obtain ⟨hp, g, d, tk, os⟩ := s
    have f1 := F.conv_sub_bool
    repeat (any_goals (first | assumption | (refine wpAny_mono hq (fun b s' hb => ?_) fun _ _ e => e) | wp_step))
    all_goals first | exact ⟨_, rfl, hb⟩ | exact hb | skip
  · exact wpAny_mono h (fun b s' hb => ⟨rfl, hb⟩) fun _ _ e => e
end
end PySem.W

namespace WR
open PySem PySem.Spec PyProof.Rows L2
section
variable {g : G} {lev : Nat} {X : Cx} {N : List Str} {sc : Scope} {W : WX}
theorem r_neG (c : COk g lev X N sc W) (ho : OpR X (compareOp .NotEq) (oNe g.K)) : OpR X (compareOp .NotEq) (oNeG g) := by
  intro pins s σ H x y v u Q I rx ry h
  unfold oNeG at h
  split at h
  · rename_i a C fs e
    obtain ⟨dx, rfl, ea⟩ := insOf_ok e
    cases rx
    obtain ⟨⟨p, hp, hC⟩, hy, h⟩ := h
    subst hC
    have hne := (ownB_ok (c.gok.nes p hp)).1
    rw [← c.hK] at hne
    obtain ⟨tb, hb, hn⟩ := eq_looks c I ry hy
    obtain ⟨fa, h1, h2, cl, run⟩ := spc_get (us := [u]) c h
    obtain ⟨mA, J, _⟩ := ins_get I.hok ea
    obtain ⟨od, J, _⟩ := J.look
    show wpAny (model X.prog X.w) X.A (richCompare .NotEq (.ref a) u) _ _ _
    have hm : PySem.W.Looks (model X.prog X.w) s.heap (isInstance (.ref a) (.type "object")) true := by
      obtain ⟨cd, hc, ho⟩ := PySem.W.any_some cl.po
      have ne : cd.mro.isEmpty = false := by cases q : cd.mro with | nil => rw [q] at ho; cases ho | cons _ _ => rfl
      exact J.type.andThen (PySem.W.looks_mroIn I.kIn (by unfold PySem.W.mroIn; rw [hc, Option.bind_some, if_neg (by rw [ne]; decide), PySem.W.only_has ho]))
    refine PySem.W.wr_ne (by have := c.room.un; omega) I.kIn J hb hn hne hm h1 h2 (wpAny_mono (run c.room.in1 c.gd rfl I (.cons ry .nil)) (fun r s' z => ?_) fun _ _ z => z)
    obtain ⟨w, H', I', rv, q⟩ := z
    cases w <;> first | exact q.elim | skip
    cases rv
    exact ⟨_, rfl, .bl _, H', I', rfl, q⟩
  · rcases h with h | h | h
    · exact ho pins s σ H x y v u Q I rx ry h
    · rw [← c.hK] at h
      exact op_neDD (by have := c.room.un; omega) pins s σ H x y v u Q I rx ry h
    · rw [← c.hK] at h
      exact op_neM (by have := c.room.un; omega) pins s σ H x y v u Q I rx ry h
theorem b_boolG (c : COk g lev X N sc W) : CallR X (.type "bool") (bBoolG g) := by
  intro pins s σ H xs us Q I r h
  unfold bBoolG at h
  split at h
  · exact call_bool1 pins s σ H _ us Q I r (.inl ⟨_, rfl, h⟩)
  · exact call_bool1 pins s σ H _ us Q I r (.inr ⟨_, rfl, h⟩)
  · split at h
    · rename_i x _ _ a C fs e
      obtain ⟨dx, rfl, ea⟩ := insOf_ok e
      obtain ⟨u, rfl, ru⟩ := vals1 r
      cases ru
      obtain ⟨⟨cs, hl, hC⟩, h⟩ := h
      obtain ⟨_, hb⟩ := c.gok.ats _ (lookup_mem hl) _ hC
      rw [← c.hK] at hb
      obtain ⟨fa, h1, h2, cl, run⟩ := spc_get (us := []) c h
      obtain ⟨mA, J, _⟩ := ins_get I.hok ea
      obtain ⟨od, J, _⟩ := J.look
      refine PySem.W.wr_bool (PySem.W.wr_truthy I.kIn J hb h1 h2 (wpAny_mono (run (room_in3 c.room) c.gd rfl I .nil) (fun u s' z => ?_) fun _ _ z => z))
      obtain ⟨v, H', I', rv, q⟩ := z
      cases v <;> first | exact q.elim | skip
      obtain ⟨t, rfl⟩ := rv
      exact ⟨_, _, rfl, q.1, ⟨.bl _, H', I'.tok _, rfl, q.2⟩⟩
    · exact h.elim
  · exact h.elim

/-- isinstance(x, D), D an own class -/
def bIsO (g : G) (D : Addr) : RC := fun xs H Q => match xs with
  | [x, .ref D'] => D' = D ∧ (match insOf H x with
    | some (_, C, _) => (∃ p ∈ g.nes, p.2 = C) ∧ ((C = D ∧ Q (.bl true) H) ∨ (PySem.W.kitOne g.K (.ref C) (.ref D) = some false ∧ Q (.bl false) H))
    | none => (tyN g.K H x).isSome = true ∧ Q (.bl false) H)
  | _ => False
theorem tyN_basic {K : PySem.W.Frag} {H : Hp} {x : V} {n : String} (h : tyN K H x = some n) : n ∈ basics := by
  unfold tyN at h
  split at h
  all_goals try (cases h <;> simp [basics])
  split at h
  all_goals try (cases h <;> simp [basics])
  split at h <;> cases h <;> simp [basics]
theorem b_isO (c : COk g lev X N sc W) {D : Str × Addr} (hD : D ∈ g.nes) : CallR X (.builtin "isinstance") (bIsO g D.2) := by
  refine CallR_imp call_isi fun xs H Q h => ?_
  rw [c.hK]
  unfold bIsO at h
  split at h
  · obtain ⟨rfl, h⟩ := h
    have hcl := c.gok.nec D hD
    obtain ⟨k1, k2, k3, k4, k5, k6, k7⟩ := ownB_ok (c.gok.nes D hD)
    split at h
    · rename_i a C fs e
      obtain ⟨dx, rfl, ea⟩ := insOf_ok e
      obtain ⟨⟨p, hp, rfl⟩, h⟩ := h
      obtain ⟨m1, m2, m3, m4, m5, m6, m7⟩ := ownB_ok (c.gok.nes p hp)
      rcases h with ⟨hC, h⟩ | ⟨hk, h⟩
      · rw [hC] at ea
        exact ⟨_, _, _, _, true, rfl, .own _, .base (.ins ea hcl k2 k3 k4 k5), k6, h⟩
      · rcases c.gok.nec p hp with cl
        exact ⟨_, _, _, _, false, rfl, .own _, .base (.ins ea cl m2 m3 m4 m5), hk, h⟩
    · cases e : tyN g.K H _ with
      | none => rw [e] at h; cases h.1
      | some n => exact ⟨_, _, _, _, false, rfl, .own _, tyN_ok e, k7 n (tyN_basic e), h.2⟩
  · exact h.elim
/-! ### sorted -/
def allStr : List V → Option (List Str)
  | [] => some []
  | .str x :: r => (allStr r).map (x :: ·)
  | _ => none
def allInt : List V → Option (List Int)
  | [] => some []
  | .int x :: r => (allInt r).map (x :: ·)
  | _ => none
theorem allStr_ok : ∀ {vs : List V} {ss : List Str}, allStr vs = some ss → vs = ss.map V.str
  | [], ss, h => by cases h; rfl
  | v :: r, ss, h => by
    cases v <;> simp [allStr] at h
    obtain ⟨l, hl, rfl⟩ := h
    rw [allStr_ok hl]; rfl
theorem allInt_ok : ∀ {vs : List V} {ss : List Int}, allInt vs = some ss → vs = ss.map V.int
  | [], ss, h => by cases h; rfl
  | v :: r, ss, h => by
    cases v <;> simp [allInt] at h
    obtain ⟨l, hl, rfl⟩ := h
    rw [allInt_ok hl]; rfl
theorem allStr_map : ∀ ss : List Str, allStr (ss.map V.str) = some ss
  | [] => rfl
  | x :: r => by show (allStr (r.map V.str)).map (x :: ·) = _; rw [allStr_map r]; rfl
theorem allInt_map : ∀ ss : List Int, allInt (ss.map V.int) = some ss
  | [] => rfl
  | x :: r => by show (allInt (r.map V.int)).map (x :: ·) = _; rw [allInt_map r]; rfl
def keysS : List (Key × V) → Option (List Str)
  | [] => some []
  | (.inr x, _) :: r => (keysS r).map (x :: ·)
  | _ => none
theorem keysS_ok : ∀ {kvs : List (Key × V)} {ss : List Str}, keysS kvs = some ss → kvs.map (·.1) = ss.map Sum.inr
  | [], ss, h => by cases h; rfl
  | (k, v) :: r, ss, h => by
    cases k with
    | inl i => simp [keysS] at h
    | inr x =>
      simp [keysS] at h
      obtain ⟨l, hl, rfl⟩ := h
      rw [List.map_cons, List.map_cons, keysS_ok hl]
/-- sorted(..) of texts, of whole numbers, of a dict's text keys -/
def bSorted (K : PySem.W.Frag) : RC := fun xs H Q => match xs with
  | [.ref a] => (match look K H a with
    | some (.lst vs) => (match allStr vs with
      | some ss => ss.length < 64 ∧ ∀ ys : List Str, ys.Perm ss → sortedS ys = true → ∀ p, H p = none → Q (.ref p) (upd H p (.lst (ys.map V.str)))
      | none => (match allInt vs with
        | some ns => ∀ ys : List Int, ys.Perm ns → ys.Pairwise (· ≤ ·) → ∀ p, H p = none → Q (.ref p) (upd H p (.lst (ys.map V.int)))
        | none => False))
    | some (.dK kvs) => (match keysS kvs with
      | some ss => ss.length < 64 ∧ ∀ ys : List Str, ys.Perm ss → sortedS ys = true → ∀ p, H p = none → Q (.ref p) (upd H p (.lst (ys.map V.str)))
      | none => False)
    | _ => False)
  | _ => False
theorem b_sorted (hc : X.calm = true) : CallR X (.builtin "sorted") (bSorted X.K) := by
  refine CallR_imp (cr_sortedS.or (cr_sortedI.or (call_sortedD hc))) fun xs H Q h => ?_
  unfold bSorted at h
  split at h
  · split at h
    · rename_i vs e
      split at h
      · rename_i ss es
        rw [allStr_ok es] at e
        exact .inl ⟨_, ss, rfl, look_lst e, h.1, fun ys p h1 h2 h3 => h.2 ys h1 h2 p h3⟩
      · split at h
        · rename_i ns es
          rw [allInt_ok es] at e
          exact .inr (.inl ⟨_, ns, rfl, look_lst e, fun ys p h1 h2 h3 => h ys h1 h2 p h3⟩)
        · exact h.elim
    · rename_i kvs e
      split at h
      · rename_i ss es
        exact .inr (.inr ⟨_, kvs, ss, rfl, look_dK e, keysS_ok es, h.1, fun ys p h1 h2 h3 => h.2 ys h1 h2 p h3⟩)
      · exact h.elim
    · exact h.elim
  · exact h.elim
end

/-! ### f'..', dict comprehensions -/
def cFmt (te : TE) : TE := fun σ H Q => te σ H fun x H1 => match x with
  | .str y => y.length ≤ sizeLine ∧ Q (.str y) H1
  | .int i => i.natAbs.log2 < 1920 ∧ Q (.str (toString i)) H1
  | _ => False
/-- the texts one behind the other -/
def cJs : List TE → Str → St → Hp → (Str → Hp → Prop) → Prop
  | [], acc, _, H, Q => Q acc H
  | t :: ts, acc, σ, H, Q => t σ H fun x H1 => match x with
    | .str y => (acc ++ y).length ≤ sizeLine ∧ cJs ts (acc ++ y) σ H1 Q
    | _ => False
/-- a dict comprehension's turns -/
def lpd (J : It) (g : TG) (tt : TT) (tk tv : TE) (vs : List Nat) (σ : St) (D : Addr) (Q : VK) : Nat → Nat → Hp → Prop
  | 0, i, H => J.stop i H ∧ Q (.ref D) H
  | n + 1, i, H => (J.stop i H ∧ Q (.ref D) H) ∨ (J.go i H ∧ ∀ x H', J.yld i H x H' → g x (wipe σ vs) H' fun σ2 H2 => wipe σ2 vs = wipe σ vs ∧ tt σ2 H2 fun b H3 =>
      if b = true then tk σ2 H3 fun y H4 => tv σ2 H4 fun z H5 => ∃ kvs k, y = kV k ∧ H5 D = some (.dK kvs) ∧ kvs.length < sizeLine ∧ lpd J g tt tk tv vs σ D Q n (i + 1) (upd H5 D (.dK (putK kvs k z)))
      else lpd J g tt tk tv vs σ D Q n (i + 1) H3)
def cDc (wi : TI) (g : TG) (tt : TT) (tk tv : TE) (vs : List Nat) : TE := fun σ H Q => wi σ H fun J H1 => ∀ D, H1 D = none → ∃ n, lpd J g tt tk tv vs σ D Q n 0 (upd H1 D (.dK []))
end WR

set_option Elab.async false
set_option linter.all false
set_option maxRecDepth 100000
set_option maxHeartbeats 4000000
namespace WR
open PySem PySem.Spec PyProof.Rows L2

/-! ## repr of data at any depth -/
def kD : Key → PyData
  | .inl i => .int i
  | .inr s => .str s
mutual
inductive Dx (K : PySem.W.Frag) (H : Hp) : V → PyData → Prop
  | non : Dx K H .non .none
  | bl (b : Bool) : Dx K H (.bl b) (.bool b)
  | int (i : Int) : Dx K H (.int i) (.int i)
  | str (x : Str) : Dx K H (.str x) (.str x)
  | lst {a : Addr} {xs : List V} {ds : List PyData} : look K H a = some (.lst xs) → DxAll K H xs ds → Dx K H (.ref a) (.list ds)
  | tup {a : Addr} {xs : List V} {ds : List PyData} : look K H a = some (.tup xs) → DxAll K H xs ds → Dx K H (.ref a) (.tuple ds)
  | dic {a : Addr} {kvs : List (Key × V)} {ds : List (PyData × PyData)} : Rd H a (.dK kvs) → DxKv K H kvs ds → Dx K H (.ref a) (.dict ds)
inductive DxAll (K : PySem.W.Frag) (H : Hp) : List V → List PyData → Prop
  | nil : DxAll K H [] []
  | cons {v : V} {vs : List V} {d : PyData} {ds : List PyData} : Dx K H v d → DxAll K H vs ds → DxAll K H (v :: vs) (d :: ds)
inductive DxKv (K : PySem.W.Frag) (H : Hp) : List (Key × V) → List (PyData × PyData) → Prop
  | nil : DxKv K H [] []
  | cons {k : Key} {v : V} {kvs : List (Key × V)} {d : PyData} {ds : List (PyData × PyData)} : Dx K H v d → DxKv K H kvs ds → DxKv K H ((k, v) :: kvs) ((kD k, d) :: ds)
end
theorem sys_dict {K : PySem.W.Frag} (h : sysB K = true) : ∃ o es n, K.lookup sysModules = some o ∧ o.data = .dict es n := by
  unfold sysB at h
  split at h
  · rename_i o e
    unfold isDctO at h
    split at h
    · rename_i es n hd
      exact ⟨o, es, n, e, hd⟩
    · cases h
  · cases h
section
variable {X : Cx} {pins : List (Addr × Obj)} {σ : St} {H : Hp} {s : Shared}
/-- nothing tracked stands at sys.modules, and no list of the written part -/
theorem sys_free (I : Inv X pins σ H s) (hs : sysB X.K = true) : H sysModules = none := by
  obtain ⟨o, es, n, e, _⟩ := sys_dict hs
  exact (I.bs _ o (I.ok.mod.kin _ _ e)).2
theorem sys_lst (I : Inv X pins σ H s) (hs : sysB X.K = true) {a : Addr} {u : HO} (h : look X.K H a = some u) : sysModules ≠ a := by
  rintro rfl
  have n := sys_free I hs
  unfold look at h
  rw [n] at h
  obtain ⟨o, es, m, e, hd⟩ := sys_dict hs
  unfold kobj at h
  rw [e] at h
  simp only [hd] at h
  cases h
theorem key_reads {k : Key} {u : Value} (h : keyIs k u = true) : Reads s.heap u (kD k) [] := by
  rcases keyIs_shape h with ⟨i, t, rfl, rfl⟩ | ⟨x, t, rfl, rfl⟩
  · exact .int i t
  · exact .str x t
mutual
theorem Dx.reads (I : Inv X pins σ H s) (hs : sysB X.K = true) : ∀ (d : PyData) (v : V) (u : Value), Dx X.K H v d → RelV v u → ∃ as, Reads s.heap u d as ∧ sysModules ∉ as
  | .none, _, _, h, r => by
    cases h; cases r
    exact ⟨[], .none, by simp⟩
  | .bool b, _, _, h, r => by
    cases h; cases r
    exact ⟨[], .bool b, by simp⟩
  | .int i, _, _, h, r => by
    cases h
    obtain ⟨t, rfl⟩ := r
    exact ⟨[], .int i t, by simp⟩
  | .str x, _, _, h, r => by
    cases h
    obtain ⟨t, rfl⟩ := r
    exact ⟨[], .str x t, by simp⟩
  | .list ds, _, _, h, r => by
    cases h with
    | lst e ha =>
      cases r
      obtain ⟨its, rv, ⟨o, n, ho, hc, _, hd⟩, _⟩ := I.list (look_lst e)
      obtain ⟨as, hr, ns⟩ := Dx.readsAll I hs ds _ its ha rv
      refine ⟨_, .list ho hc hd hr, ?_⟩
      intro m
      rcases List.mem_cons.mp m with m | m
      · exact sys_lst I hs e m
      · exact ns m
  | .tuple ds, _, _, h, r => by
    cases h with
    | tup e ha =>
      cases r
      obtain ⟨its, rv, ⟨o, ho, hc, n, hd⟩, _⟩ := I.tuple (look_tup e)
      obtain ⟨as, hr, ns⟩ := Dx.readsAll I hs ds _ its ha rv
      exact ⟨as, .tuple ho hc hd hr, ns⟩
  | .dict ds, _, _, h, r => by
    cases h with
    | dic e ha =>
      rename_i a kvs
      cases r
      have ok : ObjOk X.prog X.w H s.heap a (.dK kvs) := by
        rcases e with e | ⟨ob, e⟩
        · exact I.hok _ _ e
        · exact (show ObjOk X.prog X.w H s.heap a (.frz ob (.dK kvs)) from I.hok _ _ e).2
      obtain ⟨_, na, vs, kv, o, es, ep, ho, hx, hd, hk, hp, _⟩ := ok
      obtain ⟨as, bs, r1, r2, n1, n2⟩ := Dx.readsKv I hs ds kvs vs es.toList ha kv hp
      refine ⟨_, .dict ho hx.1 hd r1 r2, ?_⟩
      have na' : sysModules ≠ a := fun z => by rw [← z] at na; simp at na
      simp only [List.cons_append, List.mem_cons, List.mem_append, not_or]
      exact ⟨na', n1, n2⟩
theorem Dx.readsAll (I : Inv X pins σ H s) (hs : sysB X.K = true) : ∀ (ds : List PyData) (vs : List V) (us : List Value), DxAll X.K H vs ds → Vals vs us → ∃ as, ReadsAll s.heap us ds as ∧ sysModules ∉ as
  | [], _, _, h, r => by
    cases h; cases r
    exact ⟨[], .nil, by simp⟩
  | d :: ds, _, _, h, r => by
    cases h with
    | cons h1 h2 =>
      cases r with
      | cons r1 r2 =>
        obtain ⟨as, q1, n1⟩ := Dx.reads I hs d _ _ h1 r1
        obtain ⟨bs, q2, n2⟩ := Dx.readsAll I hs ds _ _ h2 r2
        exact ⟨_, .cons q1 q2, fun m => (List.mem_append.mp m).elim n1 n2⟩
theorem Dx.readsKv (I : Inv X pins σ H s) (hs : sysB X.K = true) : ∀ (ds : List (PyData × PyData)) (kvs : List (Key × V)) (vs : List (Key × Value)) (es : List DictEntry), DxKv X.K H kvs ds → KV kvs vs → Pairs (mixKind X.prog X.w) es vs →
    ∃ as bs, ReadsAll s.heap (es.map (·.key)) (ds.map (·.1)) as ∧ ReadsAll s.heap (es.map (·.val)) (ds.map (·.2)) bs ∧ sysModules ∉ as ∧ sysModules ∉ bs
  | [], kvs, vs, es, h, r, p => by
    cases h; cases r; cases p
    exact ⟨[], [], .nil, .nil, by simp, by simp⟩
  | (kd, d) :: ds, kvs, vs, es, h, r, p => by
    cases h with
    | cons h1 h2 =>
      cases r with
      | cons r1 r2 =>
        cases p with
        | cons p1 p2 p3 =>
          obtain ⟨e1, r1⟩ := r1
          obtain ⟨as, bs, q1, q2, n1, n2⟩ := Dx.readsKv I hs ds _ _ _ h2 r2 p3
          obtain ⟨cs, q3, n3⟩ := Dx.reads I hs d _ _ h1 r1
          rw [← p2] at q3
          rw [← e1] at p1
          refine ⟨_, _, .cons (key_reads p1) q1, .cons q3 q2, ?_, ?_⟩
          · simpa using n1
          · exact fun m => (List.mem_append.mp m).elim n3 n2
end
end
/-! ### repr -/
def bRepr (K : PySem.W.Frag) : RC := fun xs H Q => ∃ x d, xs = [x] ∧ Dx K H x d ∧ d.showable = true ∧ d.depth ≤ 40 ∧ d.shown.length ≤ sizeLine ∧ Q (.str d.shown) H
theorem b_repr {X : Cx} (gd : X.A.guards = some []) (hu : X.A.units + 64 < cLine) (hs : sysB X.K = true) : CallR X (.builtin "repr") (bRepr X.K) := by
  intro pins s σ H xs us Q I r h
  obtain ⟨x, d, rfl, hx, h1, h2, h3, q⟩ := h
  obtain ⟨u, rfl, ru⟩ := vals1 r
  obtain ⟨as, rd, ns⟩ := Dx.reads I hs d x u hx ru
  cases rd with
  | none => exact PySem.P.repr_of_none ⟨.str _, H, I.tok _, ⟨_, rfl⟩, q⟩
  | bool b => exact PySem.P.repr_of_bool ⟨.str _, H, I.tok _, ⟨_, rfl⟩, q⟩
  | int i t => exact PySem.P.repr_of_int (by simpa [PyData.showable] using h1) ⟨.str _, H, I.tok _, ⟨_, rfl⟩, q⟩
  | str y t => exact PySem.P.repr_of_str ⟨.str _, H, I.tok _, ⟨_, rfl⟩, q⟩ h3
  | list e1 e2 e3 e4 => exact repr_of_reads' (.list e1 e2 e3 e4) h1 (fun _ => ns) gd (by omega) (fun _ _ z => z) (fun h' u tk k => ⟨.str _, H, I.kept (t' := tk) k, ⟨_, rfl⟩, q⟩) h3
  | tuple e1 e2 e3 e4 => exact repr_of_reads' (.tuple e1 e2 e3 e4) h1 (fun _ => ns) gd (by omega) (fun _ _ z => z) (fun h' u tk k => ⟨.str _, H, I.kept (t' := tk) k, ⟨_, rfl⟩, q⟩) h3
  | dict e1 e2 e3 e4 e5 => exact repr_of_reads' (.dict e1 e2 e3 e4 e5) h1 (fun _ => ns) gd (by omega) (fun _ _ z => z) (fun h' u tk k => ⟨.str _, H, I.kept (t' := tk) k, ⟨_, rfl⟩, q⟩) h3
end WR

set_option Elab.async false
set_option linter.all false
set_option maxRecDepth 100000
set_option maxHeartbeats 4000000
namespace WR
open PySem PySem.Spec PyProof.Rows L2

/-! ## list(d.values()), list(d.items()) -/
def cLV (te : TE) : TE := fun σ H Q => te σ H fun x H1 => match x with
  | .ref d => (match H1 d with
    | some (.dK kvs) => ∀ p, H1 p = none → Q (.ref p) (upd H1 p (.lst (kvs.map (·.2))))
    | _ => False)
  | _ => False
section
variable {X : Cx} {e : Expr} {te : TE} {p apos cpos pos : Pos}
theorem kv_vals {kvs : List (Key × V)} {vs : List (Key × Value)} (kv : KV kvs vs) : Vals (kvs.map (·.2)) (vs.map (·.2)) := by
  induction kv with
  | nil => exact .nil
  | cons h t ih => exact .cons h.2 ih
theorem pe_listVals (hc : X.calm = true) (he : PE X e te) (hg : Gl X "list") (hm : X.mg "list" = none) (hv : bootBuiltins "list" = some (.type "list")) (hbase : attributeBase e "values" X.env (eval e X.env) = eval e X.env) (hline : (apos.endLine == cpos.line) = true) :
    PE X (.Call (.Name "list" p) [.Call (.Attribute e "values" apos) [] [] cpos] [] pos) (cLV te) := by
  constructor
  intro pins s σ H Q I want
  have hs : starEach [.Call (.Attribute e "values" apos) [] [] cpos] X.env = (false, eval (.Call (.Attribute e "values" apos) [] [] cpos) X.env) :: starEach [] X.env := rfl
  refine wpAny_Call_Name_kw (ld_blt I hg hm hv (PyProof.Rows.callWith_type1 ?_ hs rfl))
  rw [hs]
  show wpAny _ _ (spliced ((false, eval (.Call (.Attribute e "values" apos) [] [] cpos) X.env) :: backTo pos (starEach [] X.env))) _ _ s
  apply Calls.spliced_cons
  apply wpAny_Call_method (T := "dict") (id := "dict.values") hbase rfl hline F.plainAttrs_dict F.slot_dict_values F.type_dict_values
  refine thn (he.run pins s σ H _ I want) fun u s1 got => ?_
  obtain ⟨x, H1, I1, rx, q⟩ := got
  try dsimp only at q
  split at q
  · rename_i d
    split at q
    · rename_i kvs hd
      obtain rfl : u = Value.ref d := rx
      obtain ⟨hz, hs0, vs, kv, hdo⟩ := I1.hok d _ hd
      obtain ⟨ep, hat⟩ := hdo.dictAt
      have lk : kvs.length = vs.length := Paired.length kv
      have I2 : Inv X pins σ H1 { s1 with heap := s1.heap.push { cls := .type "dict_values", data := .fields #[.ref d] } } := I1.kept (t' := s1.toks) fun b ob q => Heap.get?_push_of_some _ q
      refine ⟨hdo.typeIs, hdo.mapOf.noDict, ?_⟩
      show wpAny _ _ (callWith cpos (.builtin "dict.values") [.ref d] [] []) _ X.xe s1
      refine method_meetsIn F.slot_dict_values F.entry_dict_values rfl (PySem.evalArgs_none ⟨rfl, hdo.typeIs, F.args_dict_values_1 _, _, meets_dict_values (mixKind X.prog X.w) d hs0, ⟨vs, hdo⟩, ?_⟩)
      refine Calls.spliced_nil ?_
      refine PySem.W.kdl_call (PySem.W.kdl_values (knd := mixKind X.prog X.w) (kvs := vs) (ep := ep)) (I1.ok.hd hc) ⟨⟨_, Heap.get?_push_size _ rfl, rfl, rfl⟩, hat.push _⟩ (by omega) fun h' tk acc c keep hS items => ?_
      have el : acc.toList = vs.map (·.2) := by
        apply List.ext_getElem?
        intro j
        by_cases hj : j < acc.size
        · have e1 : acc[j]? = some acc[j] := Array.getElem?_eq_getElem hj
          obtain ⟨k, e2⟩ := items.2 j _ e1
          rw [Array.getElem?_toList, e1, List.getElem?_map, e2]
          rfl
        · have hl := items.1
          rw [List.getElem?_eq_none (by simpa using hj), List.getElem?_eq_none (by rw [List.length_map]; omega)]
      have fresh : H1 ({ s1 with heap := s1.heap.push { cls := .type "dict_values", data := .fields #[.ref d] } } : Shared).heap.objs.size = none := I2.hok.fresh (Nat.le_refl _)
      refine ⟨.ref _, _, I2.laid (t' := tk) (o := .lst (kvs.map (·.2))) keep (Nat.le_refl _) ?_, rfl, q _ fresh⟩
      refine ⟨by rw [List.length_map]; exact hz, acc.toList, c, ?_, ?_⟩
      · rw [el]
        exact kv_vals kv
      · rw [Array.toArray_toList]
        exact hS
    · exact q.elim
  · exact q.elim
end
def cLI (te : TE) : TE := LiI.tListItems te
end WR

set_option Elab.async false
set_option linter.all false
set_option maxRecDepth 100000
set_option maxHeartbeats 4000000
namespace WR
open PySem PySem.Spec PyProof.Rows L2 PySem.W

/-! ## > and >= of tuples of ints and texts; | of truths; sorted of data -/
def pOk : V → V → Bool
  | .int _, .int _ => true
  | .str _, .str _ => true
  | _, _ => false
def vGt : V → V → Bool
  | .int i, .int j => decide (j < i)
  | .str a, .str b => decide (b.cps.toList < a.cps.toList)
  | _, _ => false
def vGe : V → V → Bool
  | .int i, .int j => decide (j ≤ i)
  | .str a, .str b => !decide (a.cps.toList < b.cps.toList)
  | _, _ => false
def vLex (r : V → V → Bool) (z : Bool) : List V → List V → Bool
  | x :: xs, y :: ys => if x = y then vLex r z xs ys else r x y
  | _, _ => z
def pAll : List V → List V → Bool
  | [], [] => true
  | x :: xs, y :: ys => pOk x y && pAll xs ys
  | _, _ => false
theorem pAll_len : ∀ {xs ys : List V}, pAll xs ys = true → xs.length = ys.length
  | [], [], _ => rfl
  | x :: xs, y :: ys, h => by
    simp only [pAll, Bool.and_eq_true] at h
    simp [pAll_len h.2]
  | [], _ :: _, h => by cases h
  | _ :: _, [], h => by cases h
theorem pAll_at : ∀ {xs ys : List V}, pAll xs ys = true → ∀ j (h1 : j < xs.length) (h2 : j < ys.length), pOk xs[j] ys[j] = true
  | x :: xs, y :: ys, h, 0, _, _ => by
    simp only [pAll, Bool.and_eq_true] at h
    exact h.1
  | x :: xs, y :: ys, h, j + 1, h1, h2 => by
    simp only [pAll, Bool.and_eq_true] at h
    exact pAll_at h.2 j (by simpa using h1) (by simpa using h2)
  | [], _, _, _, h1, _ => by simp at h1
  | _, [], _, _, _, h2 => by simp at h2
theorem lex_is (r : V → V → Bool) (z : Bool) {xs ys : List V} (hl : xs.length = ys.length) : ∀ k i, i + k = xs.length →
    Ob.lexAt (fun j => decide (xs.getD j .non = ys.getD j .non)) (fun j => r (xs.getD j .non) (ys.getD j .non)) z i k = vLex r z (xs.drop i) (ys.drop i)
  | 0, i, h => by
    rw [List.drop_of_length_le (by omega), Ob.lexAt_zero]; rfl
  | k + 1, i, h => by
    have h1 : i < xs.length := by omega
    have h2 : i < ys.length := by omega
    rw [Ob.lexAt_succ, List.drop_eq_getElem_cons h1, List.drop_eq_getElem_cons h2, lex_is r z hl k (i + 1) (by omega)]
    have e1 : xs.getD i .non = xs[i] := by simp [h1]
    have e2 : ys.getD i .non = ys[i] := by simp [h2]
    rw [e1, e2]
    simp only [vLex, decide_eq_true_eq]
def oGtK (K : PySem.W.Frag) : R2 := fun x y H Q => match x, y with
  | .ref a, .ref b => (match look K H a, look K H b with
    | some (.tup xs), some (.tup ys) => pAll xs ys = true ∧ Q (.bl (vLex vGt false xs ys)) H
    | _, _ => False)
  | _, _ => oGt x y H Q
def oGeK (K : PySem.W.Frag) : R2 := fun x y H Q => match x, y with
  | .ref a, .ref b => (match look K H a, look K H b with
    | some (.tup xs), some (.tup ys) => pAll xs ys = true ∧ Q (.bl (vLex vGe true xs ys)) H
    | _, _ => False)
  | _, _ => oGe x y H Q
section
variable {X : Cx} {pins : List (Addr × Obj)} {σ : St} {H : Hp} {s : Shared}
theorem vals_at : ∀ {xs : List V} {us : List Value}, Vals xs us → ∀ j (h1 : j < xs.length) (h2 : j < us.length), RelV xs[j] us[j]
  | _, _, .cons h t, 0, _, _ => h
  | _, _, .cons h t, j + 1, h1, h2 => vals_at t j (by simpa using h1) (by simpa using h2)
theorem pair_eq {A : Around} {x y : V} {u v : Value} (h : pOk x y = true) (ru : RelV x u) (rv : RelV y v) : SeqAt.EqAt A s u v (decide (x = y)) := by
  unfold pOk at h
  split at h
  · rename_i i j
    obtain ⟨t, rfl⟩ := ru
    obtain ⟨t', rfl⟩ := rv
    have z : decide (V.int i = V.int j) = (i == j) := by
      by_cases q : i = j <;> simp [q]
    rw [z]
    exact SeqAt.EqAt.int_int _ _ _ _
  · rename_i i j
    obtain ⟨t, rfl⟩ := ru
    obtain ⟨t', rfl⟩ := rv
    have z : decide (V.str i = V.str j) = (i == j) := by
      by_cases q : i = j <;> simp [q]
    rw [z]
    exact SeqAt.EqAt.str_str _ _ _ _
  · cases h
theorem pair_gt {A : Around} {x y : V} {u v : Value} (h : pOk x y = true) (ru : RelV x u) (rv : RelV y v) : Ob.RcOp .Gt A s u v (vGt x y) := by
  unfold pOk at h
  split at h
  · obtain ⟨t, rfl⟩ := ru
    obtain ⟨t', rfl⟩ := rv
    exact Ob.RcOp.gt_int _ _ _ _
  · obtain ⟨t, rfl⟩ := ru
    obtain ⟨t', rfl⟩ := rv
    exact fun _ _ _ _ q => PySem.P.gt_str q
  · cases h
theorem pair_ge {A : Around} {x y : V} {u v : Value} (h : pOk x y = true) (ru : RelV x u) (rv : RelV y v) : Ob.RcOp .GtE A s u v (vGe x y) := by
  unfold pOk at h
  split at h
  · obtain ⟨t, rfl⟩ := ru
    obtain ⟨t', rfl⟩ := rv
    exact Ob.RcOp.ge_int _ _ _ _
  · obtain ⟨t, rfl⟩ := ru
    obtain ⟨t', rfl⟩ := rv
    exact fun _ _ _ _ q => PySem.P.ge_str q
  · cases h
theorem r_gtK (hu : X.A.units < cLine) : OpR X (compareOp .Gt) (oGtK X.K) := by
  intro pins s σ H x y v u Q I rx ry h
  unfold oGtK at h
  split at h
  · rename_i a b
    split at h
    · rename_i xs ys ha hb
      obtain ⟨hp, q⟩ := h
      cases rx
      cases ry
      obtain ⟨its, r1, p1, _⟩ := I.tuple (look_tup ha)
      obtain ⟨its2, r2, p2, _⟩ := I.tuple (look_tup hb)
      have l1 := r1.length
      have l2 := r2.length
      have l3 := pAll_len hp
      have R := Ob.RcOp.tuples_gt (A := X.A) (s := s) (e := fun j => decide (xs.getD j .non = ys.getD j .non)) (r := fun j => vGt (xs.getD j .non) (ys.getD j .non)) p1 p2 hu (fun j h1 h2 => by
        simp only [List.size_toArray] at h1 h2
        have e1 : xs.getD j .non = xs[j] := by simp [show j < xs.length by omega]
        have e2 : ys.getD j .non = ys[j] := by simp [show j < ys.length by omega]
        try dsimp only
        rw [e1, e2]
        exact pair_eq (pAll_at hp j (by omega) (by omega)) (by simpa using vals_at r1 j (by omega) h1) (by simpa using vals_at r2 j (by omega) h2)) (fun j h1 h2 _ => by
        simp only [List.size_toArray] at h1 h2
        have e1 : xs.getD j .non = xs[j] := by simp [show j < xs.length by omega]
        have e2 : ys.getD j .non = ys[j] := by simp [show j < ys.length by omega]
        try dsimp only
        rw [e1, e2]
        exact pair_gt (pAll_at hp j (by omega) (by omega)) (by simpa using vals_at r1 j (by omega) h1) (by simpa using vals_at r2 j (by omega) h2))
      rw [List.size_toArray, List.size_toArray, ← l1, ← l2, l3, Nat.min_self, lex_is vGt _ l3 ys.length 0 (by omega)] at R
      rw [show decide (ys.length > ys.length) = false from by simp] at R
      exact R X.prog X.w X.xe (EP X pins σ Q) ⟨.bl _, H, I, rfl, q⟩
    · exact h.elim
  · exact r_gt pins s σ H x y v u Q I rx ry h
theorem r_geK (hu : X.A.units < cLine) : OpR X (compareOp .GtE) (oGeK X.K) := by
  intro pins s σ H x y v u Q I rx ry h
  unfold oGeK at h
  split at h
  · rename_i a b
    split at h
    · rename_i xs ys ha hb
      obtain ⟨hp, q⟩ := h
      cases rx
      cases ry
      obtain ⟨its, r1, p1, _⟩ := I.tuple (look_tup ha)
      obtain ⟨its2, r2, p2, _⟩ := I.tuple (look_tup hb)
      have l1 := r1.length
      have l2 := r2.length
      have l3 := pAll_len hp
      have R := Ob.RcOp.tuples_ge (A := X.A) (s := s) (e := fun j => decide (xs.getD j .non = ys.getD j .non)) (r := fun j => vGe (xs.getD j .non) (ys.getD j .non)) p1 p2 hu (fun j h1 h2 => by
        simp only [List.size_toArray] at h1 h2
        have e1 : xs.getD j .non = xs[j] := by simp [show j < xs.length by omega]
        have e2 : ys.getD j .non = ys[j] := by simp [show j < ys.length by omega]
        try dsimp only
        rw [e1, e2]
        exact pair_eq (pAll_at hp j (by omega) (by omega)) (by simpa using vals_at r1 j (by omega) h1) (by simpa using vals_at r2 j (by omega) h2)) (fun j h1 h2 _ => by
        simp only [List.size_toArray] at h1 h2
        have e1 : xs.getD j .non = xs[j] := by simp [show j < xs.length by omega]
        have e2 : ys.getD j .non = ys[j] := by simp [show j < ys.length by omega]
        try dsimp only
        rw [e1, e2]
        exact pair_ge (pAll_at hp j (by omega) (by omega)) (by simpa using vals_at r1 j (by omega) h1) (by simpa using vals_at r2 j (by omega) h2))
      rw [List.size_toArray, List.size_toArray, ← l1, ← l2, l3, Nat.min_self, lex_is vGe _ l3 ys.length 0 (by omega)] at R
      rw [show decide (ys.length ≥ ys.length) = true from by simp] at R
      exact R X.prog X.w X.xe (EP X pins σ Q) ⟨.bl _, H, I, rfl, q⟩
    · exact h.elim
  · exact r_ge pins s σ H x y v u Q I rx ry h
def oBor : R2 := fun x y H Q => match x, y with
  | .bl a, .bl b => Q (.bl (a || b)) H
  | .int i, .int j => Q (.int (Builtin.bitOr i j)) H
  | _, _ => False
theorem r_bor : OpR X (binaryOp .BitOr) oBor := by
  intro pins s σ H x y v u Q I rx ry h
  unfold oBor at h
  split at h
  · cases rx
    cases ry
    exact PyProof.Rows.or_bool ⟨.bl _, H, I, rfl, h⟩
  · exact op_or pins s σ H _ _ v u Q I rx ry ⟨_, _, rfl, rfl, h⟩
  · exact h.elim
/-- sorted of data that can be put in order -/
def bSortT (K : PySem.W.Frag) : RC := fun xs H Q => ∃ (a : Addr) (vs : List V) (ds : List PyData), xs = [.ref a] ∧ look K H a = some (.lst vs) ∧ DpAll K H vs ds ∧ AllAlike ds ∧ Sortable ds ∧ (∀ d ∈ ds, d.depth ≤ 40) ∧
  ∀ p, H p = none → Q (.ref p) (upd H p (.lst (((vs.zip ds).mergeSort (dataLe false (·.2))).map (·.1))))
theorem zip_each (I : Inv X pins σ H s) : ∀ {vs : List V} {ds : List PyData} {us : List Value}, DpAll X.K H vs ds → Vals vs us →
    (vs.zip ds).map (·.2) = ds ∧ (vs.zip ds).length = vs.length ∧ EachIs (fun u b => RelV b.1 u) us (vs.zip ds) ∧ EachIs (fun u b => ∃ as, Reads s.heap u b.2 as) us (vs.zip ds)
  | [], ds, us, h, r => by
    cases h; cases r
    exact ⟨rfl, rfl, .nil, .nil⟩
  | v :: vs, ds, us, h, r => by
    cases h with
    | @cons _ _ d ds h1 h2 =>
      cases r with
      | @cons _ u _ us r1 r2 =>
        obtain ⟨a, b, c, e⟩ := zip_each I h2 r2
        exact ⟨by simp only [List.zip_cons_cons, List.map_cons, a], by simp only [List.zip_cons_cons, List.length_cons, b], .cons r1 c, .cons (Dp.reads I d v u h1 r1) e⟩
theorem each_vals {bs : List (V × PyData)} {out : List Value} (h : EachIs (fun u b => RelV b.1 u) out bs) : Vals (bs.map (·.1)) out := by
  induction h with
  | nil => exact .nil
  | cons a _ ih => exact .cons a ih
theorem b_sortT (hu : X.A.units + 64 < cLine) : CallR X (.builtin "sorted") (bSortT X.K) := by
  intro pins s σ H xs us Q I r h
  obtain ⟨a, vs, ds, rfl, hs, hd, hal, hso, hdp, q⟩ := h
  obtain ⟨its, rv, hl, hz⟩ := I.list (look_lst hs)
  rw [Vals.ref1 r]
  obtain ⟨e1, e2, e3, e4⟩ := zip_each I hd rv
  refine sorted_data (R := fun u b => RelV b.1 u) (enc := (·.2)) (bs := vs.zip ds) hl.isList e3 e4 (by rw [e1]; exact hal) (by rw [e1]; exact hso) (by rw [e2]; exact hz) (fun b hb => ?_) fun out h1 h2 => ?_
  · have : b.2 ∈ ds := by rw [← e1]; exact List.mem_map_of_mem hb
    have := hdp _ this
    omega
  · obtain ⟨ep, he'⟩ := PyProof.Rows.sortedAll_at s.heap its out.toArray
    have hlen : (((vs.zip ds).mergeSort (dataLe false (·.2))).map (·.1)).length ≤ sizeLine := by
      rw [List.length_map, List.length_mergeSort, e2]; exact hz
    exact ⟨.ref _, upd H (s.heap.objs.size + 1) (.lst (((vs.zip ds).mergeSort (dataLe false (·.2))).map (·.1))), I.laid (t' := s.toks) (fun _ _ => PyProof.Rows.sortedAll_old) (Nat.le_succ _) ⟨hlen, out, ep, each_vals h2, he'⟩, rfl, q _ (I.hok.fresh (Nat.le_succ _))⟩
def bSortedX (K : PySem.W.Frag) : RC := fun xs H Q => bSorted K xs H Q ∨ bSortT K xs H Q
theorem b_sortedX (hc : X.calm = true) (hu : X.A.units + 64 < cLine) : CallR X (.builtin "sorted") (bSortedX X.K) := CallR_imp ((b_sorted hc).or (b_sortT hu)) fun _ _ _ h => h
end
end WR

set_option Elab.async false
set_option linter.all false
set_option maxRecDepth 100000
set_option maxHeartbeats 4000000
namespace WRR
open PySem PySem.W PySem.Calls PyProof.Rows
section
variable {prog : Program} {w : World} {A : Around} {E : Value → Shared → Prop} {s : Shared} {K : Frag} {x C f : Addr} {ox : Obj} {od : Option Obj}
/-! ## u == x, x an own instance: the builtin on the left declines, x is asked -/
theorem wr_eqR {T id : String} {u : Value} {Q : Value → Shared → Prop} (hu : A.units < cLine) (X : K.In s.heap) (I : InstAt s.heap x ox C od) (hT : s.TypeIs u T) (hsub : subIn K (.ref C) (.type T) = some false) (sl : Slot T (cmpInfo .Eq).2.1 id)
    (hc : ∀ Q' : Value → Shared → Prop, Q' .notImplemented s → wpAny (model prog w) A (call (.builtin id) [u, .ref x]) Q' E s) (hs : findIn K (.ref C) "__eq__" = some (some (.ref f))) (hf : isFn K (.ref f) = true)
    (h : wpAny (model prog w) A (call (.ref f) [.ref x, u]) (PySem.W.CmpBack Q) E s) : wpAny (model prog w) A (richCompare .Eq u (.ref x)) Q E s := by
  unfold richCompare
  simp only [hT.oneThing_none]
  refine wpAny_holding (wpAny_bind (wpAny_cRoomFor hu ?_))
  refine wpAny_bind (wpAny_typeOf hT (wpAny_bind (I.type.here ?_)))
  rw [cmpInfo_Eq]
  dsimp only
  rw [if_pos (show (Value.type T != Value.ref C) = true from rfl)]
  refine wpAny_bind ((looks_subIn X hsub).here ?_)
  simp only [Bool.false_eq_true, if_false, Bool.not_false, if_true]
  refine wpAny_bind (m := tryCompare u _ (.ref x)) (wpAny_tryCompare_declines hT sl (hc _ ⟨rfl, ?_⟩))
  refine wpAny_bind (m := tryCompare (.ref x) _ u) ?_
  unfold tryCompare
  refine wpAny_bind (ifBound_K X I hs hf (wpAny_mono h (fun v s' hv => ?_) fun _ _ e => e))
  cases v <;> first | exact hv.elim | exact wpAny_pure (wpAny_pure hv)
theorem int_declines (b : Int) (u : Tok) (l : Addr) (c : Value) (dd : Option Addr) (sl : Array (Option Value)) :
    Meets (Builtin.«int.__eq__» ⟨[.int b u, .ref l], []⟩) (fun _ R s => s.heap.get? l = some { cls := c, dict := dd, data := .plain, slots := sl } ∧ R (.ok (.ret .notImplemented)) s) :=
  .of_wp fun prog w A R s h => by obtain ⟨hp, g, d, tk, os⟩ := s; obtain ⟨hl, h⟩ := h; wp_walk using wpAny_loadPart' hl, wpAny_load hl; exact ⟨_, rfl, h⟩
theorem str_declines (b : Str) (u : Tok) (l : Addr) (c : Value) (dd : Option Addr) (sl : Array (Option Value)) :
    Meets (Builtin.«str.__eq__» ⟨[.str b u, .ref l], []⟩) (fun _ R s => s.heap.get? l = some { cls := c, dict := dd, data := .plain, slots := sl } ∧ R (.ok (.ret .notImplemented)) s) :=
  .of_wp fun prog w A R s h => by obtain ⟨hp, g, d, tk, os⟩ := s; obtain ⟨hl, h⟩ := h; wp_walk using wpAny_loadPart' hl, wpAny_load hl; exact ⟨_, rfl, h⟩
theorem list_declines (l x : Addr) : MeetsIn prog w (Builtin.«list.__eq__» ⟨[.ref l, .ref x], []⟩) (fun _ R s => Looks (model prog w) s.heap (isInstance (.ref x) (.type "list")) false ∧ R (.ok (.ret .notImplemented)) s) := by
  rintro A R s ⟨L, h⟩
  show wpAny _ _ (slotArgs "__eq__" 1 ⟨[.ref l, .ref x], []⟩ >>= _) _ _ _
  refine wpAny_bind (m := slotArgs "__eq__" 1 _) (wpAny_pure ?_)
  refine wpAny_bind (L.here ?_)
  simp only [Bool.not_false, if_true]
  first
    | exact wpAny_pure h
    | exact wpAny_bind (wpAny_pure (wpAny_pure h))
    | exact wpAny_bind (wpAny_pure h)
theorem dict_declines (l x : Addr) : MeetsIn prog w (Builtin.«dict.__eq__» ⟨[.ref l, .ref x], []⟩) (fun _ R s => Looks (model prog w) s.heap (isInstance (.ref x) (.type "dict")) false ∧ R (.ok (.ret .notImplemented)) s) := by
  rintro A R s ⟨L, h⟩
  show wpAny _ _ (Builtin.Dict.dictSlotArgs "__eq__" ⟨[.ref l, .ref x], []⟩ >>= _) _ _ _
  refine wpAny_bind (m := Builtin.Dict.dictSlotArgs "__eq__" _) (wpAny_of_eq (a := ((.ref l : Value), (.ref x : Value))) (by rfl) ?_)
  refine wpAny_bind (L.here ?_)
  simp only [Bool.not_false, if_true]
  refine wpAny_bind (wpAny_rule ?_)
  first
    | exact wpAny_pure h
    | exact wpAny_bind (wpAny_pure (wpAny_pure h))
    | exact wpAny_bind (wpAny_pure h)
end
end WRR
namespace WR
open PySem PySem.Spec PyProof.Rows L2
/-- kinds whose == declines an own instance -/
def tyR (H : Hp) : V → Option String
  | .non => some "NoneType"
  | .int _ => some "int"
  | .str _ => some "str"
  | .ref p => (match H p with
    | some (.lst _) => some "list"
    | some (.dK _) => some "dict"
    | _ => none)
  | _ => none
/-- x == y, y an own instance: y is asked -/
def oEqR (g : G) : R2 := fun x y H Q => ∃ n b C fs, tyR H x = some n ∧ insOf H y = some (b, C, fs) ∧ PySem.W.subIn g.K (.ref C) (.type n) = some false ∧ spc g "__eq__" C y [x] H fun v H' => match v with
  | .bl b => Q (.bl b) H'
  | _ => False
def oEqG (g : G) : R2 := fun x y H Q => oEqG0 g x y H Q ∨ oEqR g x y H Q
section
variable {g : G} {lev : Nat} {X : Cx} {N : List Str} {sc : Scope} {W : WX}
theorem r_eqR (c : COk g lev X N sc W) : OpR X (compareOp .Eq) (oEqR g) := by
  intro pins s σ H x y v u Q I rx ry h
  obtain ⟨n, b, C, fs, tx, ey, hs, h⟩ := h
  obtain ⟨dx, rfl, ea⟩ := insOf_ok ey
  cases ry
  obtain ⟨fa, h1, h2, cl, run⟩ := spc_get (us := [v]) c h
  have ob : s.heap.get? b = some (PySem.W.instObj C dx) := (show ObjOk X.prog X.w H s.heap b (.ins C dx fs) from I.hok b _ ea).2.2.2.1
  obtain ⟨mA, J, _⟩ := ins_get I.hok ea
  obtain ⟨od, J, _⟩ := J.look
  have hu : X.A.units < cLine := by have := c.room.un; omega
  rw [← c.hK] at hs
  have ni : PySem.W.Looks (model X.prog X.w) s.heap (isInstance (.ref b) (.type n)) false := J.type.andThen (PySem.W.looks_subIn I.kIn hs)
  have body : wpAny (model X.prog X.w) X.A (call (.ref fa) [.ref b, v]) (PySem.W.CmpBack (EP X pins σ Q)) X.xe s := by
    refine wpAny_mono (run c.room0 c.gd rfl I (.cons rx .nil)) (fun r s' z => ?_) fun _ _ z => z
    obtain ⟨w, H', I', rv, q⟩ := z
    cases w <;> first | exact q.elim | skip
    cases rv
    exact ⟨.bl _, H', I', rfl, q⟩
  show wpAny (model X.prog X.w) X.A (richCompare .Eq v (.ref b)) _ _ _
  cases x with
  | non =>
    cases tx
    obtain rfl : v = Value.none := rx
    exact WRR.wr_eqR hu I.kIn J rfl hs F.slot_NoneType_eq (fun _ hq => call_gives F.slot_NoneType_eq rfl F.entry_NoneType_eq (F.args_NoneType_eq_2 _ _) (SeqAt.NoneType___eq___none_ref_0 b) hq) h1 h2 body
  | int i =>
    cases tx
    obtain ⟨t, rfl⟩ := (show ∃ t, v = Value.int i t from rx)
    exact WRR.wr_eqR hu I.kIn J (typeIs_int s i t) hs F.slot_int_eq (fun _ hq => call_meets F.slot_int_eq (typeIs_int s i t) F.entry_int_eq (F.args_int_eq_2 _ _) (WRR.int_declines i t b (.ref C) (some dx) #[]) ⟨ob, hq⟩) h1 h2 body
  | str y =>
    cases tx
    obtain ⟨t, rfl⟩ := (show ∃ t, v = Value.str y t from rx)
    exact WRR.wr_eqR hu I.kIn J (typeIs_str s y t) hs F.slot_str_eq (fun _ hq => call_meets F.slot_str_eq (typeIs_str s y t) F.entry_str_eq (F.args_str_eq_2 _ _) (WRR.str_declines y t b (.ref C) (some dx) #[]) ⟨ob, hq⟩) h1 h2 body
  | ref p =>
    obtain rfl : v = Value.ref p := rx
    simp only [tyR] at tx
    split at tx
    · rename_i xs e
      cases tx
      obtain ⟨_, its, m, _, eo⟩ := (show ObjOk X.prog X.w H s.heap p (.lst xs) from I.hok p _ e)
      have ty : s.TypeIs (.ref p) "list" := ⟨_, eo, rfl⟩
      exact WRR.wr_eqR hu I.kIn J ty hs F.slot_list_eq (fun _ hq => call_meetsIn F.slot_list_eq ty F.entry_list_eq (F.args_list_eq_2 _ _) (WRR.list_declines p b) ⟨ni, hq⟩) h1 h2 body
    · rename_i kvs e
      cases tx
      obtain ⟨_, _, vs, _, dd⟩ := (show ObjOk X.prog X.w H s.heap p (.dK kvs) from I.hok p _ e)
      have ty : s.TypeIs (.ref p) "dict" := by
        obtain ⟨o, _, _, eo, ed, _⟩ := dd
        exact ⟨o, eo, ed.1⟩
      exact WRR.wr_eqR hu I.kIn J ty hs F.slot_dict_eq (fun _ hq => call_meetsIn F.slot_dict_eq ty F.entry_dict_eq (F.args_dict_eq_2 _ _) (WRR.dict_declines p b) ⟨ni, hq⟩) h1 h2 body
    · cases tx
  | _ => cases tx
theorem r_eqG (c : COk g lev X N sc W) (ho : OpR X (compareOp .Eq) (oEq g.K)) : OpR X (compareOp .Eq) (oEqG g) := (r_eqG0 c ho).or (r_eqR c)
end
end WR

set_option Elab.async false
set_option linter.all false
set_option maxRecDepth 100000
set_option maxHeartbeats 4000000
namespace WR
open PySem PySem.Spec PyProof.Rows L2 HT
/-! ## x[::-1] of lists and tuples -/
section
variable {prog : Program} {w : World} {A : Around} {E : Value → Shared → Prop} {s : Shared}
theorem sliceApplied_rev {sl : Addr} {vs : Value} {n : Nat} {Q : Int × Int × Nat → Shared → Prop} (hs : s.heap.IsSliceOf sl .none .none vs) (ps : IsPart vs (some (-1)))
    (h : Q ((n : Int) - 1, -1, n) s) : wpAny (model prog w) A (Builtin.Slice.sliceApplied (.ref sl) (pure (n : Int))) Q E s := by
  obtain ⟨os, hos, hcs, hds⟩ := id hs
  unfold Builtin.Slice.sliceApplied Builtin.Slice.sliceFields
  refine wpAny_bind (wpAny_bind (wpAny_field hos hds (x := .none) rfl (wpAny_bind (wpAny_field hos hds (x := .none) rfl (wpAny_bind (wpAny_field hos hds (x := vs) rfl (wpAny_pure ?_)))))))
  refine wpAny_bind (slicePart_ ps ?_)
  show wpAny _ _ (if ((-1 : Int) == 0) = true then _ else _) _ _ s
  rw [if_neg (by decide)]
  refine wpAny_bind (slicePart_none (wpAny_bind (slicePart_none (wpAny_bind (wpAny_pure ?_)))))
  show wpAny _ _ (match Builtin.Slice.sliceAdjust none none (-1) (n : Int) with | (lo, hi) => pure (lo, (-1 : Int), Builtin.Slice.slicePlaces lo hi (-1))) _ _ s
  have e1 : Builtin.Slice.sliceAdjust none none (-1) (n : Int) = ((n : Int) - 1, -1) := rfl
  rw [e1]
  have e2 : Builtin.Slice.slicePlaces ((n : Int) - 1) (-1) (-1) = n := by
    unfold Builtin.Slice.slicePlaces
    rw [if_neg (by decide)]
    by_cases h : (n : Int) - 1 > -1
    · rw [if_pos h]
      show ((((n : Int) - 1 - (-1) - 1) / (-(-1)) + 1).toNat) = n
      have : (-(-1 : Int)) = 1 := rfl
      rw [this, Int.ediv_one]
      omega
    · rw [if_neg h]
      omega
  show wpAny _ _ (pure ((n : Int) - 1, (-1 : Int), Builtin.Slice.slicePlaces ((n : Int) - 1) (-1) (-1))) _ _ s
  rw [e2]
  exact wpAny_pure h
theorem fm_map {α β : Type} {f : α → Option β} {g : α → β} : ∀ (l : List α), (∀ m ∈ l, f m = some (g m)) → l.filterMap f = l.map g
  | [], _ => rfl
  | a :: l, h => by
    rw [List.filterMap_cons, h a List.mem_cons_self, List.map_cons, fm_map l fun m hm => h m (List.mem_cons_of_mem _ hm)]
theorem pick_rev (xs : Array Value) : ((List.range xs.size).filterMap fun (m : Nat) => xs[(((xs.size : Int) - 1) + (m : Int) * (-1)).toNat]?).toArray = xs.toList.reverse.toArray := by
  congr 1
  refine List.ext_getElem? fun j => ?_
  have e : ∀ m, m < xs.size → xs[(((xs.size : Int) - 1) + (m : Int) * (-1)).toNat]? = some (xs.toList.reverse.getD m .none) := fun m hm => by
    have : (((xs.size : Int) - 1) + (m : Int) * (-1)).toNat = xs.size - 1 - m := by omega
    rw [this, List.getD_eq_getElem?_getD, List.getElem?_reverse (by simpa using hm)]
    simp only [Array.length_toList]
    have h2 : xs.size - 1 - m < xs.size := by omega
    simp [h2]
  have f : (List.range xs.size).filterMap (fun (m : Nat) => xs[(((xs.size : Int) - 1) + (m : Int) * (-1)).toNat]?) = (List.range xs.size).map fun m => xs.toList.reverse.getD m .none := by
    exact fm_map _ fun m hm => e m (List.mem_range.mp hm)
  rw [f]
  by_cases hj : j < xs.size
  · rw [List.getElem?_map, List.getElem?_range hj]
    show some (xs.toList.reverse.getD j .none) = _
    have : j < xs.toList.reverse.length := by simpa using hj
    rw [List.getD_eq_getElem?_getD, List.getElem?_eq_getElem this]
    rfl
  · rw [List.getElem?_eq_none (by simpa using hj), List.getElem?_eq_none (by simpa using hj)]
theorem getItem_tuple_rev {t sl : Addr} {items : Array Value} {vs : Value} {Q : Value → Shared → Prop} (ht : IsTup s.heap t items) (hs : s.heap.IsSliceOf sl .none .none vs) (ps : IsPart vs (some (-1)))
    (h : Q (.ref s.heap.objs.size) { s with heap := s.heap.push { cls := .type "tuple", data := .seq items.toList.reverse.toArray } })
    (hsz : items.size ≤ sizeLine) : wpAny (model prog w) A (getItem (.ref t) (.ref sl)) Q E s := by
  have htake : sizeOk (.seq items.toList.reverse.toArray) := by
    show items.toList.reverse.toArray.size ≤ sizeLine
    rw [List.size_toArray, List.length_reverse, Array.length_toList]
    exact hsz
  obtain ⟨os, hos, hcs, hds⟩ := id hs
  have hTs : s.TypeIs (.ref sl) "slice" := ⟨os, hos, hcs⟩
  unfold getItem
  try with_reducible refine wpAny_holding ?_
  first | refine wpAny_bind (wpAny_pure ?_) | skip
  refine wpAny_bind (wpAny_sequenceKey ht.typeIs (by decide) ?_)
  refine wpAny_bind (wpAny_callSpecial?_slot (name := Str.ofString "__getitem__") ht.typeIs PyProof.Rows.slot_tuple_getitem
    (wpAny_call_entry PyProof.Rows.slot_tuple_getitem ht.typeIs entry_tuple_getitem ?_ (args_tuple_getitem _ _)))
  show wpAny _ _ (Builtin.Tuple.tupleItemsOf (.ref t) >>= _) _ _ s
  refine wpAny_bind (tupleItemsOf_ ht ?_)
  refine wpAny_bind (wpAny_typeOf hTs ?_)
  rw [if_pos (by decide)]
  refine wpAny_bind (sliceApplied_rev hs ps ?_)
  have hno : ¬ (((((items.size : Int) - 1) == 0) && ((-1 : Int) == 1) && (items.size == items.size)) = true) := by
    intro q
    rw [Bool.and_eq_true, Bool.and_eq_true] at q
    exact absurd q.1.2 (by decide)
  show wpAny _ _ (if (((((items.size : Int) - 1) == 0) && ((-1 : Int) == 1) && (items.size == items.size)) = true) then _ else _) _ _ s
  rw [if_neg hno, pick_rev]
  first
    | exact wpAny_bind (m := Builtin.Tuple.tupleExact _) (wpAny_newObj_type (wpAny_pure ⟨_, rfl, wpAny_pure h⟩) htake)
    | exact wpAny_bind (m := Builtin.Tuple.tupleExact _) (wpAny_newObj_type (wpAny_bind (wpAny_pure (wpAny_pure ⟨_, rfl, wpAny_pure h⟩))) htake)
    | exact wpAny_bind (wpAny_bind (m := Builtin.Tuple.tupleExact _) (wpAny_newObj_type (wpAny_pure (wpAny_pure ⟨_, rfl, wpAny_pure h⟩)) htake))
    | exact wpAny_bind (wpAny_bind (m := Builtin.Tuple.tupleExact _) (wpAny_newObj_type (wpAny_pure ⟨_, rfl, wpAny_pure h⟩) htake))
end
/-- x[::-1] -/
def cRevS (K : PySem.W.Frag) (te : TE) : TE := fun σ H Q => te σ H fun x H1 => match x with
  | .ref a => (match look K H1 a with
    | some (.lst xs) => ∀ p, H1 p = none → Q (.ref p) (upd H1 p (.lst xs.reverse))
    | some (.tup xs) => ∀ p, H1 p = none → Q (.ref p) (upd H1 p (.tup xs.reverse))
    | _ => False)
  | .str z => z.length ≤ sizeLine ∧ Q (.str ⟨z.cps.toList.reverse.toArray⟩) H1
  | _ => False
theorem str_rev (z : Str) (t t' : Tok) : sliceMade z t none none (some (-1, t')) = .str ⟨z.cps.toList.reverse.toArray⟩ := by
  have e : slicePicked z none none (some (-1, t')) = (List.range z.cps.size).reverse := by
    show Builtin.Str.strSliceIndices none none (-1) z.length = _
    unfold Builtin.Str.strSliceIndices
    show sliceRange ((z.cps.size : Int) - 1) (-1) (-1) = _
    rw [PySem.W.krv_sliceRange, PySem.W.krv_range]
  unfold sliceMade
  rw [e, if_neg (by
    show ¬ (((-1 : Int) == 1) && _) = true
    simp)]
  rw [List.filterMap_reverse, PySem.W.krv_all]
section
variable {X : Cx}
theorem pe_revS {e : Expr} {te : TE} {k : Nat} {p1 p2 p3 pos : Pos} (he : PE X e te) : PE X (.Subscript e (.Slice none none (some (.UnaryOp .USub (.Constant (.int 1) k p1) p2)) p3) pos) (cRevS X.K te) := by
  refine ⟨fun pins s σ H Q I h => ?_⟩
  refine Subscript_ (thn (he.run pins s σ H _ I h) fun v s1 ⟨x, H1, I1, r1, q1⟩ => ?_)
  dsimp only at q1
  split at q1
  · rename_i a
    cases r1
    have hst : PO X (some (.UnaryOp .USub (.Constant (.int 1) k p1) p2)) (tPart (tUn (rU fun i => .int (-i)) (tC (.int 1)))) := po_some (pe_un un_neg pe_int)
    refine wpAny_Slice (thn (po_none.run pins s1 σ H1 (fun o H2 => o = none ∧ H2 = H1) I1 ⟨rfl, rfl⟩) fun vl s2 ⟨l, H2, I2, pl, el, e2⟩ => ?_)
    subst el e2
    refine thn (po_none.run pins s2 σ H2 (fun o H3 => o = none ∧ H3 = H2) I2 ⟨rfl, rfl⟩) fun vu s3 ⟨u, H3, I3, pu, eu, e3⟩ => ?_
    subst eu e3
    refine thn (hst.run pins s3 σ H3 (fun o H4 => o = some (-1) ∧ H4 = H3) I3 ⟨1, rfl, -1, rfl, rfl, rfl⟩) fun vs s4 ⟨o, H4, I4, ps, eo, e4⟩ => ?_
    subst eo e4
    have I5 : Inv X pins σ H4 { s4 with heap := s4.heap.push { cls := .type "slice", data := .fields #[vl, vu, vs] } } := I4.kept (t' := s4.toks) fun b ob q => Heap.get?_push_of_some _ q
    cases pl
    cases pu
    split at q1
    · rename_i xs e
      obtain ⟨its, r, ht, hz⟩ := I5.list (look_lst e)
      have hlen := r.length
      show wpAny (model X.prog X.w) X.A (subscriptTail _ (.Slice none none (some (.UnaryOp .USub (.Constant (.int 1) k p1) p2)) p3) (.ref a) (.ref s4.heap.objs.size)) (EP X pins σ Q) X.xe { s4 with heap := s4.heap.push { cls := .type "slice", data := .fields #[.none, .none, vs] } }
      refine tail_any (ops := [.ref a, .ref s4.heap.objs.size]) ht.isList.typeIs (PySem.slot_list_getitem.lookup) ?_ (by with_unfolding_all rfl)
      refine wpAny_getItem_list_slice ht.isList (Heap.IsSliceOf.new _ .none .none vs) .none .none ps (by decide) ?_ (by rw [List.size_toArray]; omega)
      rw [PySem.W.krv_pick]
      refine ⟨.ref _, _, I5.laid (t' := s4.toks) (o := .lst xs.reverse) (fun b ob q => Heap.get?_push_of_some _ q) (Nat.le_refl _) ?_, rfl, q1 _ (I5.hok.fresh (Nat.le_refl _))⟩
      exact ⟨by rw [List.length_reverse]; exact hz, _, 0, r.reverse, Heap.get?_push_size _ rfl⟩
    · rename_i xs e
      obtain ⟨its, r, ht, hz⟩ := I5.tuple (look_tup e)
      have hlen := r.length
      show wpAny (model X.prog X.w) X.A (subscriptTail _ (.Slice none none (some (.UnaryOp .USub (.Constant (.int 1) k p1) p2)) p3) (.ref a) (.ref s4.heap.objs.size)) (EP X pins σ Q) X.xe { s4 with heap := s4.heap.push { cls := .type "slice", data := .fields #[.none, .none, vs] } }
      refine tail_any (ops := [.ref a, .ref s4.heap.objs.size]) ht.typeIs (PyProof.Rows.slot_tuple_getitem.lookup) ?_ (by with_unfolding_all rfl)
      refine getItem_tuple_rev ht (Heap.IsSliceOf.new _ .none .none vs) ps ?_ (by rw [List.size_toArray]; omega)
      refine ⟨.ref _, _, I5.laid (t' := s4.toks) (o := .tup xs.reverse) (fun b ob q => Heap.get?_push_of_some _ q) (Nat.le_refl _) ?_, rfl, q1 _ (I5.hok.fresh (Nat.le_refl _))⟩
      exact ⟨by rw [List.length_reverse]; exact hz, _, r.reverse, IsTup.new _ _⟩
    · exact q1.elim
  · rename_i z
    obtain ⟨t, rfl⟩ := r1
    have hst : PO X (some (.UnaryOp .USub (.Constant (.int 1) k p1) p2)) (tPart (tUn (rU fun i => .int (-i)) (tC (.int 1)))) := po_some (pe_un un_neg pe_int)
    refine wpAny_Slice (thn (po_none.run pins s1 σ H1 (fun o H2 => o = none ∧ H2 = H1) I1 ⟨rfl, rfl⟩) fun vl s2 ⟨l, H2, I2, pl, el, e2⟩ => ?_)
    subst el e2
    refine thn (po_none.run pins s2 σ H2 (fun o H3 => o = none ∧ H3 = H2) I2 ⟨rfl, rfl⟩) fun vu s3 ⟨u, H3, I3, pu, eu, e3⟩ => ?_
    subst eu e3
    refine thn (hst.run pins s3 σ H3 (fun o H4 => o = some (-1) ∧ H4 = H3) I3 ⟨1, rfl, -1, rfl, rfl, rfl⟩) fun vs s4 ⟨o, H4, I4, ps, eo, e4⟩ => ?_
    subst eo e4
    have I5 : Inv X pins σ H4 { s4 with heap := s4.heap.push { cls := .type "slice", data := .fields #[vl, vu, vs] } } := I4.kept (t' := s4.toks) fun b ob q => Heap.get?_push_of_some _ q
    cases pl
    cases pu
    cases ps
    rename_i t' _
    show wpAny (model X.prog X.w) X.A (subscriptTail _ (.Slice none none (some (.UnaryOp .USub (.Constant (.int 1) k p1) p2)) p3) (.str z t) (.ref s4.heap.objs.size)) (EP X pins σ Q) X.xe { s4 with heap := s4.heap.push { cls := .type "slice", data := .fields #[.none, .none, .int (-1) t'] } }
    refine tail_any (ops := [.str z t, .ref s4.heap.objs.size]) (typeIs_str _ z t) (PySem.F.slot_str_getitem.lookup) ?_ (by with_unfolding_all rfl)
    refine wpAny_getItem_str_slice (l := none) (u := none) (st := some (-1, t')) ⟨_, Heap.get?_push_size _ rfl, rfl, rfl⟩ rfl ?_
    rw [str_rev]
    refine ⟨by show (z.cps.toList.reverse.toArray).size ≤ sizeLine; rw [List.size_toArray, List.length_reverse, Array.length_toList]; exact q1.1, ?_⟩
    exact ⟨.str _, _, I5.tok _, ⟨_, rfl⟩, q1.2⟩
  · exact q1.elim
end
end WR

set_option Elab.async false
set_option linter.all false
set_option maxRecDepth 100000
set_option maxHeartbeats 4000000
/-! min, max and sorted by a key that an own def tells -/
namespace WR
open PySem PySem.Spec PyProof.Rows L2
open PySem.W (alike dataLt rcLt_alike rcGt_alike AllAlike Sortable dataLe)
/-- all but tables stays -/
def ExN (H H' : Hp) : Prop := ∀ b o, H b = some o → (∀ ps, o ≠ .tbl ps) → H' b = some o
structure ExR (R : Hp → Hp → Prop) : Prop where
  refl : ∀ H, R H H
  trans : ∀ {a b c}, R a b → R b c → R a c
  ex : ∀ {a b}, R a b → ExN a b
theorem rd_exn {H H' : Hp} {a : Addr} {u : HO} (x : ExN H H') (hu : ∀ ps, u ≠ .tbl ps) (h : Rd H a u) : Rd H' a u := by
  rcases h with h | ⟨o, h⟩
  · exact .inl (x _ _ h hu)
  · exact .inr ⟨o, x _ _ h fun ps z => nomatch z⟩
theorem sqL_exn {K : PySem.W.Frag} {H H' : Hp} {a : Addr} {xs : List V} (x : ExN H H') (h : SqL K H a xs) : SqL K H' a xs := h.imp (rd_exn x fun ps z => nomatch z) id
theorem sqT_exn {K : PySem.W.Frag} {H H' : Hp} {a : Addr} {xs : List V} (x : ExN H H') (h : SqT K H a xs) : SqT K H' a xs := h.imp (rd_exn x fun ps z => nomatch z) id
mutual
theorem dp_exn {K : PySem.W.Frag} {H H' : Hp} (x : ExN H H') : ∀ {v : V} {d : PyData}, Dp K H v d → Dp K H' v d
  | _, _, .non => .non
  | _, _, .bl b => .bl b
  | _, _, .int i => .int i
  | _, _, .str s => .str s
  | _, _, .lst h ha => .lst (sqL_exn x h) (dpAll_exn x ha)
  | _, _, .tup h ha => .tup (sqT_exn x h) (dpAll_exn x ha)
theorem dpAll_exn {K : PySem.W.Frag} {H H' : Hp} (x : ExN H H') : ∀ {vs : List V} {ds : List PyData}, DpAll K H vs ds → DpAll K H' vs ds
  | _, _, .nil => .nil
  | _, _, .cons h ha => .cons (dp_exn x h) (dpAll_exn x ha)
end
/-- what is walked: a tuple or a list -/
def SrcOk (tp : Bool) (K : PySem.W.Frag) (H : Hp) (a : Addr) (xs : List V) : Prop := if tp = true then SqT K H a xs else SqL K H a xs
def IsIt (tp : Bool) (h : Heap) (it a : Addr) (i : Nat) : Prop := if tp = true then h.IsTupleIter it a i else h.IsListIter it a i
theorem isIt_at {tp : Bool} {h h' : Heap} {it a : Addr} {i : Nat} (st : IsIt tp h it a i) (k : ∀ o, h.get? it = some o → h'.get? it = some o) : IsIt tp h' it a i := by
  cases tp with
  | true => obtain ⟨o, e, c, d⟩ := st; exact ⟨o, k o e, c, d⟩
  | false => obtain ⟨o, e, c, d⟩ := st; exact ⟨o, k o e, c, d⟩
theorem isIt_obj {tp : Bool} {h : Heap} {it a : Addr} {i : Nat} (st : IsIt tp h it a i) : ∃ o, h.get? it = some o ∧ ∀ v, o.data ≠ .cell v := by
  cases tp with
  | true => obtain ⟨o, e, c, d⟩ := st; exact ⟨o, e, fun v z => by rw [d] at z; cases z⟩
  | false => obtain ⟨o, e, c, d⟩ := st; exact ⟨o, e, fun v z => by rw [d] at z; cases z⟩
theorem src_exn {tp : Bool} {K : PySem.W.Frag} {H H' : Hp} {a : Addr} {xs : List V} (x : ExN H H') (h : SrcOk tp K H a xs) : SrcOk tp K H' a xs := by
  cases tp with
  | true => exact sqT_exn x h
  | false => exact sqL_exn x h
section
variable {X : Cx} {pins : List (Addr × Obj)} {σ : St} {H : Hp} {s : Shared} {A : Around} {E : Value → Shared → Prop} {tp : Bool} {a it : Addr} {xs : List V} {i : Nat}
theorem src_item {x : V} {Q : Option Value → Shared → Prop} (I : Inv X pins σ H s) (hs : SrcOk tp X.K H a xs) (hx : xs[i]? = some x) (f : FpOk X pins H it) (st : IsIt tp s.heap it a i)
    (q : ∀ u h', RelV x u → IsIt tp h' it a (i + 1) → Heap.SameBut it s.heap h' → Inv X pins σ H { s with heap := h' } → Q (some u) { s with heap := h' }) : wpAny (model X.prog X.w) A (pyNext (.ref it)) Q E s := by
  obtain ⟨f0, f1, f2, f3, f4, f5⟩ := f
  cases tp with
  | true =>
    obtain ⟨its, rv, p, hz⟩ := I.tuple hs
    obtain ⟨u, hu, ru⟩ := rv.get hx
    exact wpAny_pyNext_tuple_item st (show s.heap.IsTuple a its.toArray from p) (x := u) (by simpa using hu) fun h' st' sb => q u h' ru st' sb (I.turned (t' := s.toks) (fun b o hb e => (sb.2 b hb).trans e) f0 f1 f3 f4 f5)
  | false =>
    obtain ⟨its, rv, p, hz⟩ := I.list hs
    obtain ⟨u, hu, ru⟩ := rv.get hx
    exact wpAny_pyNext_list_item st p.isList (x := u) (by simpa using hu) fun h' st' sb => q u h' ru st' sb (I.turned (t' := s.toks) (fun b o hb e => (sb.2 b hb).trans e) f0 f1 f3 f4 f5)
theorem src_end {Q : Option Value → Shared → Prop} (hh : A.handled = none) (I : Inv X pins σ H s) (hs : SrcOk tp X.K H a xs) (hx : xs.length ≤ i) (f : FpOk X pins H it) (st : IsIt tp s.heap it a i)
    (q : ∀ h', Heap.ExtBut it s.heap h' → Inv X pins σ H { s with heap := h' } → Q none { s with heap := h' }) : wpAny (model X.prog X.w) A (pyNext (.ref it)) Q E s := by
  obtain ⟨f0, f1, f2, f3, f4, f5⟩ := f
  cases tp with
  | true =>
    obtain ⟨its, rv, p, hz⟩ := I.tuple hs
    have hl := rv.length
    exact wpAny_pyNext_tuple_end hh st (show s.heap.IsTuple a its.toArray from p) (by simp; omega) fun h' eb => q h' eb (I.turned (t' := s.toks) (fun b o hb e => eb b o hb e) f0 f1 f3 f4 f5)
  | false =>
    obtain ⟨its, rv, p, hz⟩ := I.list hs
    have hl := rv.length
    exact wpAny_pyNext_list_end hh st p.isList (by simp; omega) fun h' eb => q h' eb (I.turned (t' := s.toks) (fun b o hb e => eb b o hb e) f0 f1 f3 f4 f5)
theorem src_iter {Q : Value → Shared → Prop} (I : Inv X pins σ H s) (hs : SrcOk tp X.K H a xs) (q : ∀ s' it, IsIt tp s'.heap it a 0 → FpOk X pins H it → it < s'.heap.objs.size → Inv X pins σ H s' → Q (.ref it) s') : wpAny (model X.prog X.w) A (pyIter (.ref a)) Q E s := by
  cases tp with
  | true =>
    obtain ⟨its, rv, p, hz⟩ := I.tuple hs
    refine wpAny_pyIter_tuple (show s.heap.IsTuple a its.toArray from p) (q _ _ ⟨_, Heap.get?_push_size _ rfl, rfl, rfl⟩ (I.fpOk (Nat.le_refl _) (I.hok.fresh (Nat.le_refl _))) ?_ (I.kept (t' := s.toks) fun b o e => Heap.get?_push_of_some _ e))
    show _ < (s.heap.push _).objs.size
    rw [Heap.size_push]; exact Nat.lt_succ_self _
  | false =>
    obtain ⟨its, rv, p, hz⟩ := I.list hs
    refine wpAny_pyIter_list p.isList (q _ _ ⟨_, Heap.get?_push_size _ rfl, rfl, rfl⟩ (I.fpOk (Nat.le_refl _) (I.hok.fresh (Nat.le_refl _))) ?_ (I.kept (t' := s.toks) fun b o e => Heap.get?_push_of_some _ e))
    show _ < (s.heap.push _).objs.size
    rw [Heap.size_push]; exact Nat.lt_succ_self _
end
/-- which of two is taken -/
def btV (mx : Bool) (d : V → PyData) (xs : List V) (i j : Nat) : Bool := if mx = true then dataLt (d (xs.getD j .non)) (d (xs.getD i .non)) else dataLt (d (xs.getD i .non)) (d (xs.getD j .non))
/-- the first greatest, the first least -/
def bestV (mx : Bool) (d : V → PyData) (xs : List V) : V := xs.getD (argBest (btV mx d xs) (xs.length - 1)) .non
theorem argBest_le (bt : Nat → Nat → Bool) : ∀ j, argBest bt j ≤ j
  | 0 => Nat.le_refl _
  | j + 1 => by
    have := argBest_le bt j
    unfold argBest
    split <;> omega
theorem getD_mem {xs : List V} {i : Nat} (h : i < xs.length) : xs[i]? = some (xs.getD i .non) ∧ xs.getD i .non ∈ xs := by
  have e : xs.getD i .non = xs[i] := by simp [h]
  rw [e]
  exact ⟨by simp [h], List.getElem_mem h⟩

section
variable {X : Cx} {pins : List (Addr × Obj)} {σ : St} {H0 : Hp} {A : Around} {tp : Bool} {a it S q : Addr} {xs : List V} {d : V → PyData} {R : Hp → Hp → Prop} {Rr : Result → Shared → Prop}
theorem min_upd {H : Hp} {s : Shared} {o : Obj} {vs : Array Value} {c : Nat} (I : Inv X pins σ H s) (f : FpOk X pins H S) (hS : s.heap.get? S = some { cls := .type "list", dict := none, data := .seq vs c, slots := #[] }) (ws : Array Value) :
    Inv X pins σ H { s with heap := s.heap.update S (Obj.mapSeq fun _ => ws), toks := s.toks } := by
  obtain ⟨f0, f1, f2, f3, f4, f5⟩ := f
  exact I.turned (t' := s.toks) (fun b o hb e => (Heap.get?_update_other _ _ (fun z => hb z.symm)).trans e) f0 f1 f3 f4 f5
theorem min_loopJ (exr : ExR R) (hh : A.handled = none) (src : SrcOk tp X.K H0 a xs) (hal : ∀ x ∈ xs, ∀ y ∈ xs, alike (d x) (d y) = true) (hnn : ∀ x ∈ xs, d x ≠ .none) (hdp : ∀ x ∈ xs, A.units + 1 + (d x).depth < cLine)
    (hcall : ∀ (pins' : List (Addr × Obj)) (H : Hp) (s : Shared) (x : V) (u : Value) (E : Value → Shared → Prop), x ∈ xs → RelV x u → R H0 H → Inv X pins' σ H s → wpAny (model X.prog X.w) A.in1 (call (.ref q) [u]) (EP X pins' σ fun y H2 => R H H2 ∧ Dp X.K H2 y (d x)) E s)
    (kw : List (Str × Value)) (hne : S ≠ it) :
    ∀ (k j : Nat) (s : Shared) (H : Hp) (vb kb : Value) (c : Nat), xs.length - (j + 1) = k → j + 1 ≤ xs.length → Inv X pins σ H s → R H0 H → IsIt tp s.heap it a (j + 1) → FpOk X pins H it → FpOk X pins H S →
    RelV (xs.getD (argBest (btV false d xs) j) .non) vb → (∃ y, RelV y kb ∧ Dp X.K H y (d (xs.getD (argBest (btV false d xs) j) .non))) →
    s.heap.get? S = some { cls := .type "list", dict := none, data := .seq #[vb, kb] c, slots := #[] } →
    (∀ v s' H', Inv X pins σ H' s' → R H0 H' → RelV (bestV false d xs) v → Rr (.ok (.ret v)) s') → codeAny (model X.prog X.w) A (.builtin "min.loop" ⟨[.ref it, (.ref q), .ref S], kw⟩) Rr s := by
  have hname : (toString "min" ++ toString ".loop" : String) = "min.loop" := by decide
  have hh1 : A.in1.handled = none := hh
  intro k
  induction k with
  | zero =>
    intro j s H vb kb c hk hj I r st fi fS hvb hkb hS hR
    have hin : j + 1 = xs.length := by omega
    refine codeAny_builtin F.entry_min_loop ?_
    rw [Around.under_plainId F.plain_min_loop _]
    show wpAny _ A.in1 (seqItems? (.ref S) >>= _) _ _ s
    refine wpAny_bind (wpAny_seqItems hS rfl ?_)
    show wpAny _ A.in1 (tryCatch (pyNext (.ref it)) _ >>= _) _ _ s
    refine wpAny_bind (wpAny_tryCatch (src_end hh1 I (src_exn (exr.ex r) src) (by omega) fi st fun h' eb I' => ?_))
    have hS' : h'.get? S = some { cls := .type "list", dict := none, data := .seq #[vb, kb] c, slots := #[] } := eb S _ hne hS
    show wpAny _ A.in1 (updateSeq S (fun _ => #[]) >>= _) _ _ _
    refine wpAny_bind ?_
    refine wpAny_updateSeq hS' rfl (wpAny_bind (wpAny_letGo (wpAny_pure ?_)))
    refine hR vb _ H (min_upd (o := { cls := .none }) I' fS hS' #[]) r ?_
    unfold bestV
    rw [← hin]
    exact hvb
  | succ k ih =>
    intro j s H vb kb c hk hj I r st fi fS hvb hkb hS hR
    have hlt : j + 1 < xs.length := by omega
    obtain ⟨hx, hxm⟩ := getD_mem hlt
    have hbl : argBest (btV false d xs) j < xs.length := Nat.lt_of_le_of_lt (argBest_le _ j) (by omega)
    obtain ⟨_, hbm⟩ := getD_mem hbl
    refine codeAny_builtin F.entry_min_loop ?_
    rw [Around.under_plainId F.plain_min_loop _]
    show wpAny _ A.in1 (seqItems? (.ref S) >>= _) _ _ s
    refine wpAny_bind (wpAny_seqItems hS rfl ?_)
    show wpAny _ A.in1 (tryCatch (pyNext (.ref it)) _ >>= _) _ _ s
    refine wpAny_bind (wpAny_tryCatch (src_item I (src_exn (exr.ex r) src) hx fi st fun v h' ru st' sb I' => ?_))
    have hS' : h'.get? S = some { cls := .type "list", dict := none, data := .seq #[vb, kb] c, slots := #[] } := (sb.2 S hne).trans hS
    obtain ⟨oi, hoi, hdi⟩ := isIt_obj st'
    have Ip := I'.pinned (fp := [S, it]) (fun b hb => by
      simp only [List.mem_cons, List.not_mem_nil, or_false] at hb
      rcases hb with rfl | rfl
      · exact fS
      · exact fi) (fun b hb => by
      simp only [List.mem_cons, List.not_mem_nil, or_false] at hb
      rcases hb with rfl | rfl
      · exact ⟨_, hS', fun v z => nomatch z⟩
      · exact ⟨oi, hoi, hdi⟩)
    show wpAny _ A.in1 (tryCatch (holding [v] (call (.ref q) [v])) _ >>= _) _ _ _
    refine wpAny_bind (wpAny_tryCatch (wpAny_holding (wpAny_mono (hcall _ H _ _ v (fun _ _ => False) hxm ru r Ip) (fun kx s'' hq => ?_) fun _ _ z => z.elim)))
    obtain ⟨y, H2, I2, ry, r2, dy⟩ := hq
    have pS := I2.pin (S, _) (List.mem_append_right _ (List.mem_append_right _ (mem_pinsAt (List.mem_cons_self) hS')))
    have pI := I2.pin (it, oi) (List.mem_append_right _ (List.mem_append_right _ (mem_pinsAt (List.mem_cons_of_mem _ List.mem_cons_self) hoi)))
    have hS2 : s''.heap.get? S = some { cls := .type "list", dict := none, data := .seq #[vb, kb] c, slots := #[] } := pS.1
    have st2 : IsIt tp s''.heap it a (j + 1 + 1) := isIt_at st' fun o e => by
      have e' : h'.get? it = some o := e
      rw [hoi] at e'; cases e'
      exact pI.1
    have fS2 : FpOk X pins H2 S := ⟨pS.2.1, fS.2⟩
    have fi2 : FpOk X pins H2 it := ⟨pI.2.1, fi.2⟩
    have I3 := I2.unpinned
    have rr := exr.trans r r2
    obtain ⟨yb, rb, db⟩ := hkb
    have db2 := dp_exn (exr.ex r2) db
    obtain ⟨as1, re1⟩ := Dp.reads I3 _ y kx dy ry
    obtain ⟨as2, re2⟩ := Dp.reads I3 _ yb kb db2 rb
    have cmp : Ob.RcOp .Lt A.in1 s'' kx kb (btV false d xs (j + 1) (argBest (btV false d xs) j)) := by
      unfold btV
      simp only [Bool.false_eq_true, if_false]
      refine rcLt_alike _ _ A.in1 s'' kx kb as1 as2 re1 re2 (hal _ hxm _ hbm) (hnn _ hxm) ?_
      have := hdp _ hxm
      have := Nat.min_le_left (d (xs.getD (j + 1) .non)).depth (d (xs.getD (argBest (btV false d xs) j) .non)).depth
      show A.units + 1 + _ < _
      omega
    show wpAny _ A.in1 (tryCatch (holding [v, kx] (richCompare .Lt kx kb >>= _)) _ >>= _) _ _ _
    refine wpAny_bind (wpAny_tryCatch (wpAny_holding (wpAny_bind (cmp X.prog X.w _ _ ?_))))
    refine wpAny_bind (wpAny_holding (wpAny_truthy_bool ?_))
    refine wpAny_bind (wpAny_letGo (wpAny_pure ?_))
    cases hb : btV false d xs (j + 1) (argBest (btV false d xs) j) with
    | true =>
      simp only [if_true]
      refine wpAny_bind ?_
      refine wpAny_updateSeq hS2 rfl (wpAny_bind (wpAny_letGo ?_))
      rw [hname]
      refine wpAny_pure ⟨plainId_quiet F.plain_min_loop _, ih (j + 1) _ H2 v kx _ (by omega) hlt (min_upd (o := { cls := .none }) I3 fS2 hS2 #[v, kx]) rr (isIt_at st2 fun o e => (Heap.get?_update_other _ _ hne).trans e) fi2 fS2 (by simp only [argBest, hb, if_true]; exact ru) ⟨y, ry, by simp only [argBest, hb, if_true]; exact dy⟩ (Heap.get?_update_self _ hS2 rfl) hR⟩
    | false =>
      simp only [Bool.false_eq_true, if_false]
      refine wpAny_bind (wpAny_letGo ?_)
      rw [hname]
      exact wpAny_pure ⟨plainId_quiet F.plain_min_loop _, ih (j + 1) _ H2 vb kb c (by omega) hlt I3 rr st2 fi2 fS2 (by simp only [argBest, hb, Bool.false_eq_true, if_false]; exact hvb) ⟨yb, rb, by simp only [argBest, hb, Bool.false_eq_true, if_false]; exact db2⟩ hS2 hR⟩
theorem min_firstJ (exr : ExR R) (hh : A.handled = none) (src : SrcOk tp X.K H0 a xs) (hal : ∀ x ∈ xs, ∀ y ∈ xs, alike (d x) (d y) = true) (hnn : ∀ x ∈ xs, d x ≠ .none) (hdp : ∀ x ∈ xs, A.units + 1 + (d x).depth < cLine)
    (hcall : ∀ (pins' : List (Addr × Obj)) (H : Hp) (s : Shared) (x : V) (u : Value) (E : Value → Shared → Prop), x ∈ xs → RelV x u → R H0 H → Inv X pins' σ H s → wpAny (model X.prog X.w) A.in1 (call (.ref q) [u]) (EP X pins' σ fun y H2 => R H H2 ∧ Dp X.K H2 y (d x)) E s)
    (kw : List (Str × Value)) (hne : S ≠ it) {s : Shared} {c : Nat} (hx0 : xs ≠ []) (I : Inv X pins σ H0 s) (st : IsIt tp s.heap it a 0) (fi : FpOk X pins H0 it) (fS : FpOk X pins H0 S)
    (hS : s.heap.get? S = some { cls := .type "list", dict := none, data := .seq #[] c, slots := #[] })
    (hR : ∀ v s' H', Inv X pins σ H' s' → R H0 H' → RelV (bestV false d xs) v → Rr (.ok (.ret v)) s') : codeAny (model X.prog X.w) A (.builtin "min.loop" ⟨[.ref it, (.ref q), .ref S], kw⟩) Rr s := by
  have hname : (toString "min" ++ toString ".loop" : String) = "min.loop" := by decide
  have hlt : 0 < xs.length := List.length_pos_iff.mpr hx0
  obtain ⟨hx, hxm⟩ := getD_mem hlt
  refine codeAny_builtin F.entry_min_loop ?_
  rw [Around.under_plainId F.plain_min_loop _]
  show wpAny _ A.in1 (seqItems? (.ref S) >>= _) _ _ s
  refine wpAny_bind (wpAny_seqItems hS rfl ?_)
  show wpAny _ A.in1 (tryCatch (pyNext (.ref it)) _ >>= _) _ _ s
  refine wpAny_bind (wpAny_tryCatch (src_item I src hx fi st fun v h' ru st' sb I' => ?_))
  have hS' : h'.get? S = some { cls := .type "list", dict := none, data := .seq #[] c, slots := #[] } := (sb.2 S hne).trans hS
  obtain ⟨oi, hoi, hdi⟩ := isIt_obj st'
  have Ip := I'.pinned (fp := [S, it]) (fun b hb => by
    simp only [List.mem_cons, List.not_mem_nil, or_false] at hb
    rcases hb with rfl | rfl
    · exact fS
    · exact fi) (fun b hb => by
    simp only [List.mem_cons, List.not_mem_nil, or_false] at hb
    rcases hb with rfl | rfl
    · exact ⟨_, hS', fun v z => nomatch z⟩
    · exact ⟨oi, hoi, hdi⟩)
  show wpAny _ A.in1 (tryCatch (holding [v] (call (.ref q) [v])) _ >>= _) _ _ _
  refine wpAny_bind (wpAny_tryCatch (wpAny_holding (wpAny_mono (hcall _ H0 _ _ v (fun _ _ => False) hxm ru (exr.refl _) Ip) (fun kx s'' hq => ?_) fun _ _ z => z.elim)))
  obtain ⟨y, H2, I2, ry, r2, dy⟩ := hq
  have pS := I2.pin (S, _) (List.mem_append_right _ (List.mem_append_right _ (mem_pinsAt (List.mem_cons_self) hS')))
  have pI := I2.pin (it, oi) (List.mem_append_right _ (List.mem_append_right _ (mem_pinsAt (List.mem_cons_of_mem _ List.mem_cons_self) hoi)))
  have hS2 : s''.heap.get? S = some { cls := .type "list", dict := none, data := .seq #[] c, slots := #[] } := pS.1
  have st2 : IsIt tp s''.heap it a (0 + 1) := isIt_at st' fun o e => by
    have e' : h'.get? it = some o := e
    rw [hoi] at e'; cases e'
    exact pI.1
  have fS2 : FpOk X pins H2 S := ⟨pS.2.1, fS.2⟩
  have fi2 : FpOk X pins H2 it := ⟨pI.2.1, fi.2⟩
  have I3 := I2.unpinned
  show wpAny _ A.in1 (updateSeq S (fun _ => #[v, kx]) >>= _) _ _ _
  refine wpAny_bind ?_
  refine wpAny_updateSeq hS2 rfl ?_
  rw [hname]
  exact wpAny_pure ⟨plainId_quiet F.plain_min_loop _, min_loopJ exr hh src hal hnn hdp hcall kw hne _ 0 _ H2 v kx _ rfl hlt (min_upd (o := { cls := .none }) I3 fS2 hS2 #[v, kx]) r2 (isIt_at st2 fun o e => (Heap.get?_update_other _ _ hne).trans e) fi2 fS2 ru ⟨y, ry, dy⟩ (Heap.get?_update_self _ hS2 rfl) hR⟩
end
section
variable {X : Cx} {pins : List (Addr × Obj)} {σ : St} {H : Hp} {s : Shared} {tp : Bool} {a q : Addr} {xs : List V} {d : V → PyData} {R : Hp → Hp → Prop} {E : Value → Shared → Prop} {Q : VK}
/-- min(x, key=f) -/
theorem call_minJ (exr : ExR R) (hh : X.A.handled = none) (src : SrcOk tp X.K H a xs) (hal : ∀ x ∈ xs, ∀ y ∈ xs, alike (d x) (d y) = true) (hnn : ∀ x ∈ xs, d x ≠ .none) (hdp : ∀ x ∈ xs, X.A.units + 1 + (d x).depth < cLine)
    (hcall : ∀ (pins' : List (Addr × Obj)) (H' : Hp) (s : Shared) (x : V) (u : Value) (E : Value → Shared → Prop), x ∈ xs → RelV x u → R H H' → Inv X pins' σ H' s → wpAny (model X.prog X.w) X.A.in1 (call (.ref q) [u]) (EP X pins' σ fun y H2 => R H' H2 ∧ Dp X.K H2 y (d x)) E s)
    (hx0 : xs ≠ []) (I : Inv X pins σ H s) (hQ : ∀ H', R H H' → Q (bestV false d xs) H') : wpAny (model X.prog X.w) X.A (call (.builtin "min") [.ref a] [(Str.ofString "key", .ref q)]) (EP X pins σ Q) E s := by
  have hname : (toString "min" ++ toString ".loop" : String) = "min.loop" := by decide
  refine PyProof.Rows.kmk_tree F.kind_min F.plain_min F.entry_min (PyProof.Rows.kmk_min_key _ _) ?_
  show wpAny _ X.A.in1 (Builtin.Builtins.bindParams "min" ["key", "default"] 0 ⟨[], [(Str.ofString "key", .ref q)]⟩ >>= _) _ _ s
  refine wpAny_bind (wpAny_of_eq (show Builtin.Builtins.bindParams "min" ["key", "default"] 0 ⟨[], [(Str.ofString "key", .ref q)]⟩ = pure [some (.ref q), none] from rfl) ?_)
  refine wpAny_bind (wpAny_pure ?_)
  refine wpAny_bind (src_iter I src fun s₂ it st fi hlt I2 => ?_)
  refine wpAny_bind (wpAny_newObj_type ?_)
  rw [hname]
  have fS : FpOk X pins H s₂.heap.objs.size := I2.fpOk (Nat.le_refl _) (I2.hok.fresh (Nat.le_refl _))
  have hne : s₂.heap.objs.size ≠ it := fun z => Nat.lt_irrefl _ (z ▸ hlt)
  have I3 : Inv X pins σ H { s₂ with heap := s₂.heap.push { cls := .type "list", data := .seq #[] 0 }, toks := s₂.toks } := I2.kept (t' := s₂.toks) fun b o e => Heap.get?_push_of_some _ e
  exact wpAny_pure ⟨plainId_quiet F.plain_min_loop _, min_firstJ (S := s₂.heap.objs.size) exr hh src hal hnn hdp hcall _ hne hx0 I3 (isIt_at st fun o e => Heap.get?_push_of_some _ e) fi fS (Heap.get?_push_size _ rfl) fun v s' H' I' r' rv => ⟨_, H', I', rv, hQ H' r'⟩⟩
end

section
variable {X : Cx} {pins : List (Addr × Obj)} {σ : St} {H0 : Hp} {A : Around} {tp : Bool} {a it S q : Addr} {xs : List V} {d : V → PyData} {R : Hp → Hp → Prop} {Rr : Result → Shared → Prop}
theorem max_upd {H : Hp} {s : Shared} {o : Obj} {vs : Array Value} {c : Nat} (I : Inv X pins σ H s) (f : FpOk X pins H S) (hS : s.heap.get? S = some { cls := .type "list", dict := none, data := .seq vs c, slots := #[] }) (ws : Array Value) :
    Inv X pins σ H { s with heap := s.heap.update S (Obj.mapSeq fun _ => ws), toks := s.toks } := by
  obtain ⟨f0, f1, f2, f3, f4, f5⟩ := f
  exact I.turned (t' := s.toks) (fun b o hb e => (Heap.get?_update_other _ _ (fun z => hb z.symm)).trans e) f0 f1 f3 f4 f5
theorem max_loopJ (exr : ExR R) (hh : A.handled = none) (src : SrcOk tp X.K H0 a xs) (hal : ∀ x ∈ xs, ∀ y ∈ xs, alike (d x) (d y) = true) (hnn : ∀ x ∈ xs, d x ≠ .none) (hdp : ∀ x ∈ xs, A.units + 1 + (d x).depth < cLine)
    (hcall : ∀ (pins' : List (Addr × Obj)) (H : Hp) (s : Shared) (x : V) (u : Value) (E : Value → Shared → Prop), x ∈ xs → RelV x u → R H0 H → Inv X pins' σ H s → wpAny (model X.prog X.w) A.in1 (call (.ref q) [u]) (EP X pins' σ fun y H2 => R H H2 ∧ Dp X.K H2 y (d x)) E s)
    (kw : List (Str × Value)) (hne : S ≠ it) :
    ∀ (k j : Nat) (s : Shared) (H : Hp) (vb kb : Value) (c : Nat), xs.length - (j + 1) = k → j + 1 ≤ xs.length → Inv X pins σ H s → R H0 H → IsIt tp s.heap it a (j + 1) → FpOk X pins H it → FpOk X pins H S →
    RelV (xs.getD (argBest (btV true d xs) j) .non) vb → (∃ y, RelV y kb ∧ Dp X.K H y (d (xs.getD (argBest (btV true d xs) j) .non))) →
    s.heap.get? S = some { cls := .type "list", dict := none, data := .seq #[vb, kb] c, slots := #[] } →
    (∀ v s' H', Inv X pins σ H' s' → R H0 H' → RelV (bestV true d xs) v → Rr (.ok (.ret v)) s') → codeAny (model X.prog X.w) A (.builtin "max.loop" ⟨[.ref it, (.ref q), .ref S], kw⟩) Rr s := by
  have hname : (toString "max" ++ toString ".loop" : String) = "max.loop" := by decide
  have hh1 : A.in1.handled = none := hh
  intro k
  induction k with
  | zero =>
    intro j s H vb kb c hk hj I r st fi fS hvb hkb hS hR
    have hin : j + 1 = xs.length := by omega
    refine codeAny_builtin F.entry_max_loop ?_
    rw [Around.under_plainId F.plain_max_loop _]
    show wpAny _ A.in1 (seqItems? (.ref S) >>= _) _ _ s
    refine wpAny_bind (wpAny_seqItems hS rfl ?_)
    show wpAny _ A.in1 (tryCatch (pyNext (.ref it)) _ >>= _) _ _ s
    refine wpAny_bind (wpAny_tryCatch (src_end hh1 I (src_exn (exr.ex r) src) (by omega) fi st fun h' eb I' => ?_))
    have hS' : h'.get? S = some { cls := .type "list", dict := none, data := .seq #[vb, kb] c, slots := #[] } := eb S _ hne hS
    show wpAny _ A.in1 (updateSeq S (fun _ => #[]) >>= _) _ _ _
    refine wpAny_bind ?_
    refine wpAny_updateSeq hS' rfl (wpAny_bind (wpAny_letGo (wpAny_pure ?_)))
    refine hR vb _ H (max_upd (o := { cls := .none }) I' fS hS' #[]) r ?_
    unfold bestV
    rw [← hin]
    exact hvb
  | succ k ih =>
    intro j s H vb kb c hk hj I r st fi fS hvb hkb hS hR
    have hlt : j + 1 < xs.length := by omega
    obtain ⟨hx, hxm⟩ := getD_mem hlt
    have hbl : argBest (btV true d xs) j < xs.length := Nat.lt_of_le_of_lt (argBest_le _ j) (by omega)
    obtain ⟨_, hbm⟩ := getD_mem hbl
    refine codeAny_builtin F.entry_max_loop ?_
    rw [Around.under_plainId F.plain_max_loop _]
    show wpAny _ A.in1 (seqItems? (.ref S) >>= _) _ _ s
    refine wpAny_bind (wpAny_seqItems hS rfl ?_)
    show wpAny _ A.in1 (tryCatch (pyNext (.ref it)) _ >>= _) _ _ s
    refine wpAny_bind (wpAny_tryCatch (src_item I (src_exn (exr.ex r) src) hx fi st fun v h' ru st' sb I' => ?_))
    have hS' : h'.get? S = some { cls := .type "list", dict := none, data := .seq #[vb, kb] c, slots := #[] } := (sb.2 S hne).trans hS
    obtain ⟨oi, hoi, hdi⟩ := isIt_obj st'
    have Ip := I'.pinned (fp := [S, it]) (fun b hb => by
      simp only [List.mem_cons, List.not_mem_nil, or_false] at hb
      rcases hb with rfl | rfl
      · exact fS
      · exact fi) (fun b hb => by
      simp only [List.mem_cons, List.not_mem_nil, or_false] at hb
      rcases hb with rfl | rfl
      · exact ⟨_, hS', fun v z => nomatch z⟩
      · exact ⟨oi, hoi, hdi⟩)
    show wpAny _ A.in1 (tryCatch (holding [v] (call (.ref q) [v])) _ >>= _) _ _ _
    refine wpAny_bind (wpAny_tryCatch (wpAny_holding (wpAny_mono (hcall _ H _ _ v (fun _ _ => False) hxm ru r Ip) (fun kx s'' hq => ?_) fun _ _ z => z.elim)))
    obtain ⟨y, H2, I2, ry, r2, dy⟩ := hq
    have pS := I2.pin (S, _) (List.mem_append_right _ (List.mem_append_right _ (mem_pinsAt (List.mem_cons_self) hS')))
    have pI := I2.pin (it, oi) (List.mem_append_right _ (List.mem_append_right _ (mem_pinsAt (List.mem_cons_of_mem _ List.mem_cons_self) hoi)))
    have hS2 : s''.heap.get? S = some { cls := .type "list", dict := none, data := .seq #[vb, kb] c, slots := #[] } := pS.1
    have st2 : IsIt tp s''.heap it a (j + 1 + 1) := isIt_at st' fun o e => by
      have e' : h'.get? it = some o := e
      rw [hoi] at e'; cases e'
      exact pI.1
    have fS2 : FpOk X pins H2 S := ⟨pS.2.1, fS.2⟩
    have fi2 : FpOk X pins H2 it := ⟨pI.2.1, fi.2⟩
    have I3 := I2.unpinned
    have rr := exr.trans r r2
    obtain ⟨yb, rb, db⟩ := hkb
    have db2 := dp_exn (exr.ex r2) db
    obtain ⟨as1, re1⟩ := Dp.reads I3 _ y kx dy ry
    obtain ⟨as2, re2⟩ := Dp.reads I3 _ yb kb db2 rb
    have cmp : Ob.RcOp .Gt A.in1 s'' kx kb (btV true d xs (j + 1) (argBest (btV true d xs) j)) := by
      unfold btV
      simp only [if_true]
      refine rcGt_alike _ _ A.in1 s'' kx kb as1 as2 re1 re2 (hal _ hxm _ hbm) (hnn _ hxm) ?_
      have := hdp _ hxm
      have := Nat.min_le_left (d (xs.getD (j + 1) .non)).depth (d (xs.getD (argBest (btV true d xs) j) .non)).depth
      show A.units + 1 + _ < _
      omega
    show wpAny _ A.in1 (tryCatch (holding [v, kx] (richCompare .Gt kx kb >>= _)) _ >>= _) _ _ _
    refine wpAny_bind (wpAny_tryCatch (wpAny_holding (wpAny_bind (cmp X.prog X.w _ _ ?_))))
    refine wpAny_bind (wpAny_holding (wpAny_truthy_bool ?_))
    refine wpAny_bind (wpAny_letGo (wpAny_pure ?_))
    cases hb : btV true d xs (j + 1) (argBest (btV true d xs) j) with
    | true =>
      simp only [if_true]
      refine wpAny_bind ?_
      refine wpAny_updateSeq hS2 rfl (wpAny_bind (wpAny_letGo ?_))
      rw [hname]
      refine wpAny_pure ⟨plainId_quiet F.plain_max_loop _, ih (j + 1) _ H2 v kx _ (by omega) hlt (max_upd (o := { cls := .none }) I3 fS2 hS2 #[v, kx]) rr (isIt_at st2 fun o e => (Heap.get?_update_other _ _ hne).trans e) fi2 fS2 (by simp only [argBest, hb, if_true]; exact ru) ⟨y, ry, by simp only [argBest, hb, if_true]; exact dy⟩ (Heap.get?_update_self _ hS2 rfl) hR⟩
    | false =>
      simp only [Bool.false_eq_true, if_false]
      refine wpAny_bind (wpAny_letGo ?_)
      rw [hname]
      exact wpAny_pure ⟨plainId_quiet F.plain_max_loop _, ih (j + 1) _ H2 vb kb c (by omega) hlt I3 rr st2 fi2 fS2 (by simp only [argBest, hb, Bool.false_eq_true, if_false]; exact hvb) ⟨yb, rb, by simp only [argBest, hb, Bool.false_eq_true, if_false]; exact db2⟩ hS2 hR⟩
theorem max_firstJ (exr : ExR R) (hh : A.handled = none) (src : SrcOk tp X.K H0 a xs) (hal : ∀ x ∈ xs, ∀ y ∈ xs, alike (d x) (d y) = true) (hnn : ∀ x ∈ xs, d x ≠ .none) (hdp : ∀ x ∈ xs, A.units + 1 + (d x).depth < cLine)
    (hcall : ∀ (pins' : List (Addr × Obj)) (H : Hp) (s : Shared) (x : V) (u : Value) (E : Value → Shared → Prop), x ∈ xs → RelV x u → R H0 H → Inv X pins' σ H s → wpAny (model X.prog X.w) A.in1 (call (.ref q) [u]) (EP X pins' σ fun y H2 => R H H2 ∧ Dp X.K H2 y (d x)) E s)
    (kw : List (Str × Value)) (hne : S ≠ it) {s : Shared} {c : Nat} (hx0 : xs ≠ []) (I : Inv X pins σ H0 s) (st : IsIt tp s.heap it a 0) (fi : FpOk X pins H0 it) (fS : FpOk X pins H0 S)
    (hS : s.heap.get? S = some { cls := .type "list", dict := none, data := .seq #[] c, slots := #[] })
    (hR : ∀ v s' H', Inv X pins σ H' s' → R H0 H' → RelV (bestV true d xs) v → Rr (.ok (.ret v)) s') : codeAny (model X.prog X.w) A (.builtin "max.loop" ⟨[.ref it, (.ref q), .ref S], kw⟩) Rr s := by
  have hname : (toString "max" ++ toString ".loop" : String) = "max.loop" := by decide
  have hlt : 0 < xs.length := List.length_pos_iff.mpr hx0
  obtain ⟨hx, hxm⟩ := getD_mem hlt
  refine codeAny_builtin F.entry_max_loop ?_
  rw [Around.under_plainId F.plain_max_loop _]
  show wpAny _ A.in1 (seqItems? (.ref S) >>= _) _ _ s
  refine wpAny_bind (wpAny_seqItems hS rfl ?_)
  show wpAny _ A.in1 (tryCatch (pyNext (.ref it)) _ >>= _) _ _ s
  refine wpAny_bind (wpAny_tryCatch (src_item I src hx fi st fun v h' ru st' sb I' => ?_))
  have hS' : h'.get? S = some { cls := .type "list", dict := none, data := .seq #[] c, slots := #[] } := (sb.2 S hne).trans hS
  obtain ⟨oi, hoi, hdi⟩ := isIt_obj st'
  have Ip := I'.pinned (fp := [S, it]) (fun b hb => by
    simp only [List.mem_cons, List.not_mem_nil, or_false] at hb
    rcases hb with rfl | rfl
    · exact fS
    · exact fi) (fun b hb => by
    simp only [List.mem_cons, List.not_mem_nil, or_false] at hb
    rcases hb with rfl | rfl
    · exact ⟨_, hS', fun v z => nomatch z⟩
    · exact ⟨oi, hoi, hdi⟩)
  show wpAny _ A.in1 (tryCatch (holding [v] (call (.ref q) [v])) _ >>= _) _ _ _
  refine wpAny_bind (wpAny_tryCatch (wpAny_holding (wpAny_mono (hcall _ H0 _ _ v (fun _ _ => False) hxm ru (exr.refl _) Ip) (fun kx s'' hq => ?_) fun _ _ z => z.elim)))
  obtain ⟨y, H2, I2, ry, r2, dy⟩ := hq
  have pS := I2.pin (S, _) (List.mem_append_right _ (List.mem_append_right _ (mem_pinsAt (List.mem_cons_self) hS')))
  have pI := I2.pin (it, oi) (List.mem_append_right _ (List.mem_append_right _ (mem_pinsAt (List.mem_cons_of_mem _ List.mem_cons_self) hoi)))
  have hS2 : s''.heap.get? S = some { cls := .type "list", dict := none, data := .seq #[] c, slots := #[] } := pS.1
  have st2 : IsIt tp s''.heap it a (0 + 1) := isIt_at st' fun o e => by
    have e' : h'.get? it = some o := e
    rw [hoi] at e'; cases e'
    exact pI.1
  have fS2 : FpOk X pins H2 S := ⟨pS.2.1, fS.2⟩
  have fi2 : FpOk X pins H2 it := ⟨pI.2.1, fi.2⟩
  have I3 := I2.unpinned
  show wpAny _ A.in1 (updateSeq S (fun _ => #[v, kx]) >>= _) _ _ _
  refine wpAny_bind ?_
  refine wpAny_updateSeq hS2 rfl ?_
  rw [hname]
  exact wpAny_pure ⟨plainId_quiet F.plain_max_loop _, max_loopJ exr hh src hal hnn hdp hcall kw hne _ 0 _ H2 v kx _ rfl hlt (max_upd (o := { cls := .none }) I3 fS2 hS2 #[v, kx]) r2 (isIt_at st2 fun o e => (Heap.get?_update_other _ _ hne).trans e) fi2 fS2 ru ⟨y, ry, dy⟩ (Heap.get?_update_self _ hS2 rfl) hR⟩
end
section
variable {X : Cx} {pins : List (Addr × Obj)} {σ : St} {H : Hp} {s : Shared} {tp : Bool} {a q : Addr} {xs : List V} {d : V → PyData} {R : Hp → Hp → Prop} {E : Value → Shared → Prop} {Q : VK}
/-- max(x, key=f) -/
theorem call_maxJ (exr : ExR R) (hh : X.A.handled = none) (src : SrcOk tp X.K H a xs) (hal : ∀ x ∈ xs, ∀ y ∈ xs, alike (d x) (d y) = true) (hnn : ∀ x ∈ xs, d x ≠ .none) (hdp : ∀ x ∈ xs, X.A.units + 1 + (d x).depth < cLine)
    (hcall : ∀ (pins' : List (Addr × Obj)) (H' : Hp) (s : Shared) (x : V) (u : Value) (E : Value → Shared → Prop), x ∈ xs → RelV x u → R H H' → Inv X pins' σ H' s → wpAny (model X.prog X.w) X.A.in1 (call (.ref q) [u]) (EP X pins' σ fun y H2 => R H' H2 ∧ Dp X.K H2 y (d x)) E s)
    (hx0 : xs ≠ []) (I : Inv X pins σ H s) (hQ : ∀ H', R H H' → Q (bestV true d xs) H') : wpAny (model X.prog X.w) X.A (call (.builtin "max") [.ref a] [(Str.ofString "key", .ref q)]) (EP X pins σ Q) E s := by
  have hname : (toString "max" ++ toString ".loop" : String) = "max.loop" := by decide
  refine PyProof.Rows.kmk_tree F.kind_max F.plain_max F.entry_max (PyProof.Rows.kmk_max_key _ _) ?_
  show wpAny _ X.A.in1 (Builtin.Builtins.bindParams "max" ["key", "default"] 0 ⟨[], [(Str.ofString "key", .ref q)]⟩ >>= _) _ _ s
  refine wpAny_bind (wpAny_of_eq (show Builtin.Builtins.bindParams "max" ["key", "default"] 0 ⟨[], [(Str.ofString "key", .ref q)]⟩ = pure [some (.ref q), none] from rfl) ?_)
  refine wpAny_bind (wpAny_pure ?_)
  refine wpAny_bind (src_iter I src fun s₂ it st fi hlt I2 => ?_)
  refine wpAny_bind (wpAny_newObj_type ?_)
  rw [hname]
  have fS : FpOk X pins H s₂.heap.objs.size := I2.fpOk (Nat.le_refl _) (I2.hok.fresh (Nat.le_refl _))
  have hne : s₂.heap.objs.size ≠ it := fun z => Nat.lt_irrefl _ (z ▸ hlt)
  have I3 : Inv X pins σ H { s₂ with heap := s₂.heap.push { cls := .type "list", data := .seq #[] 0 }, toks := s₂.toks } := I2.kept (t' := s₂.toks) fun b o e => Heap.get?_push_of_some _ e
  exact wpAny_pure ⟨plainId_quiet F.plain_max_loop _, max_firstJ (S := s₂.heap.objs.size) exr hh src hal hnn hdp hcall _ hne hx0 I3 (isIt_at st fun o e => Heap.get?_push_of_some _ e) fi fS (Heap.get?_push_size _ rfl) fun v s' H' I' r' rv => ⟨_, H', I', rv, hQ H' r'⟩⟩
end
end WR

set_option Elab.async false
set_option linter.all false
set_option maxRecDepth 100000
set_option maxHeartbeats 4000000
/-! `<` of data, list.count of truths, a starred target of two, min and max by an own key -/
namespace WR
open PySem PySem.Spec PyProof.Rows L2
open PySem.W (alike dataLt rcLt_alike rcGt_alike AllAlike Sortable dataLe)
/-- x < y of alike data -/
def rLtD (K : PySem.W.Frag) : R2 := fun x y H Q => ∃ d e, Dp K H x d ∧ Dp K H y e ∧ alike d e = true ∧ d ≠ .none ∧ d.depth ≤ 60 ∧ Q (.bl (dataLt d e)) H
def oLtK (K : PySem.W.Frag) : R2 := fun x y H Q => match x, y with
  | .int i, .int j => Q (.bl (decide (i < j))) H
  | .str a, .str b => Q (.bl (decide (a.cps.toList < b.cps.toList))) H
  | _, _ => rLtD K x y H Q
theorem op_ltD {X : Cx} (hu : X.A.units + 65 < cLine) : OpR X (compareOp .Lt) (rLtD X.K) := by
  intro pins s σ H x y v u Q I rx ry h
  obtain ⟨d, e, hd, he, al, nn, dp, q⟩ := h
  obtain ⟨as, r1⟩ := Dp.reads I d x v hd rx
  obtain ⟨bs, r2⟩ := Dp.reads I e y u he ry
  have := rcLt_alike d e X.A s v u as bs r1 r2 al nn (by have := Nat.min_le_left d.depth e.depth; omega)
  exact this X.prog X.w _ _ ⟨.bl _, H, I, rfl, q⟩
theorem r_ltK {X : Cx} (hu : X.A.units + 65 < cLine) : OpR X (compareOp .Lt) (oLtK X.K) := by
  intro pins s σ H x y v u Q I rx ry h
  unfold oLtK at h
  split at h
  · exact r_lt pins s σ H _ _ v u Q I rx ry h
  · exact r_lt pins s σ H _ _ v u Q I rx ry h
  · exact op_ltD hu pins s σ H _ _ v u Q I rx ry h
/-- target, *target = a list or a tuple -/
def cStarG (K : PySem.W.Frag) (t : TGs) : TG := fun v σ H Q => ∃ a x xs tp, v = .ref a ∧ SrcOk tp K H a (x :: xs) ∧ xs.length < 16000 ∧ ∀ D, H D = none → t [x, .ref D] σ (upd H D (.lst xs)) Q
section
variable {X : Cx} {pins : List (Addr × Obj)} {σ : St} {H : Hp} {s : Shared}
theorem star_unpack {E : Value → Shared → Prop} {Q : List Value → Shared → Prop} {tp : Bool} {a : Addr} {x : V} {xs : List V} (hh : X.A.handled = none) (I : Inv X pins σ H s) (hs : SrcOk tp X.K H a (x :: xs)) (hz : xs.length < 16000)
    (q : ∀ u D s', RelV x u → H D = none → Inv X pins σ (upd H D (.lst xs)) s' → Q [u, .ref D] s') : wpAny (model X.prog X.w) X.A (unpackItems (.ref a) 2 (some 1)) Q E s := by
  have hsl := sizeLine_eq
  have fin : ∀ (u : Value) (us : List Value) (h₂ : Heap) (tk : _), RelV x u → Vals xs us → (∀ b o, s.heap.get? b = some o → h₂.get? b = some o) →
      wpAny (model X.prog X.w) X.A (newList us >>= fun d => pure ([u] ++ [d] ++ [])) Q E { s with heap := h₂, toks := tk } := by
    intro u us h₂ tk ru rus hk
    have I1 : Inv X pins σ H { s with heap := h₂, toks := tk } := I.kept (t' := tk) hk
    refine wpAny_bind (wpAny_newList ?_ (by have := rus.length; omega))
    have hf : H h₂.objs.size = none := I1.hok.fresh (Nat.le_refl _)
    exact wpAny_pure (q u h₂.objs.size _ ru hf (I1.laid (t' := tk) (fun b o e => Heap.get?_push_of_some _ e) (Nat.le_refl _) ⟨by omega, us, 0, rus, Heap.get?_push_size _ rfl⟩))
  cases tp with
  | false =>
    obtain ⟨its, rv, p, hz2⟩ := I.list hs
    cases rv with
    | cons ru rus =>
      rename_i u us
      have hl : s.heap.IsList a (u :: us).toArray := p.isList
      have hlt : a ≠ s.heap.objs.size := by obtain ⟨o, ho, _⟩ := hl; exact Nat.ne_of_lt (Heap.lt_size ho)
      have hul := rus.length
      unfold unpackItems
      refine wpAny_bind ?_
      unfold notIterableAtAll
      refine wpAny_bind (wpAny_specialOf hl.typeIs slot_list_iter.lookup ?_)
      refine wpAny_pure ?_
      simp only [Bool.false_eq_true, if_false]
      refine wpAny_bind (wpAny_holding (wpAny_pyIter_list hl ?_))
      refine wpAny_bind (wpAny_holding (PySem.W.kun_draw hlt 1 0 _ _ ⟨_, Heap.get?_push_size _ rfl, rfl, rfl⟩ (hl.push _) (by simp) fun h₁ hit₁ hs₁ => ?_))
      have hl₁ : h₁.IsList a (u :: us).toArray := (hl.push _).extBut hs₁.extBut hlt
      have hit₁' := hit₁
      obtain ⟨oi, hoi, _⟩ := hit₁'
      have hl₁' := hl₁
      obtain ⟨ol, hol, _⟩ := hl₁'
      rw [List.drop_zero]
      rw [if_neg (show ¬ (((u :: us).toArray.toList.take 1).length < 1) by simp)]
      refine wpAny_bind (wpAny_holding (PySem.W.kun_collect (s := { s with heap := h₁ }) (T := "list_iterator") (.inr (.inr (.inl rfl))) (Walks.list (A := X.A.in1) hh s.heap.objs.size a hlt (u :: us).toArray) (fun j u st => st.1.typeIs) (k := 1) (by simp) ⟨hit₁, hl₁⟩ (Heap.lt_size hoi) (Heap.lt_size hol) (fun h₂ tk hk => ?_) (by simp; omega)))
      show wpAny _ _ (if us.length < 0 then _ else _) _ _ _
      rw [if_neg (Nat.not_lt_zero _)]
      show wpAny _ _ (newList (us.take (us.length - 0)) >>= fun d => pure ([u] ++ [d] ++ us.drop (us.length - 0))) _ _ _
      rw [Nat.sub_zero, List.take_length, List.drop_length]
      have he : ∀ b o, s.heap.get? b = some o → h₂.get? b = some o := fun b o e => hk b o (Nat.ne_of_lt (Heap.lt_size e)) (hs₁.extBut b o (Nat.ne_of_lt (Heap.lt_size e)) (Heap.get?_push_of_some _ e))
      exact fin u us h₂ tk ru rus he
  | true =>
    obtain ⟨its, rv, p, hz2⟩ := I.tuple hs
    cases rv with
    | cons ru rus =>
      rename_i u us
      have hl : IsTup s.heap a (u :: us).toArray := p
      have hlt : a ≠ s.heap.objs.size := by obtain ⟨o, ho, _⟩ := hl; exact Nat.ne_of_lt (Heap.lt_size ho)
      have hul := rus.length
      unfold unpackItems
      refine wpAny_bind ?_
      unfold notIterableAtAll
      refine wpAny_bind (wpAny_specialOf hl.typeIs slot_tuple_iter.lookup ?_)
      refine wpAny_pure ?_
      simp only [Bool.false_eq_true, if_false]
      refine wpAny_bind (wpAny_holding (iter_tuple hl ?_))
      refine wpAny_bind (wpAny_holding (draw_tuple hlt 1 0 _ _ ⟨_, Heap.get?_push_size _ rfl, rfl, rfl⟩ (hl.push _) (by simp) fun h₁ hit₁ hs₁ => ?_))
      have hl₁ : IsTup h₁ a (u :: us).toArray := (hl.push _).extBut hs₁.extBut hlt
      have hit₁' := hit₁
      obtain ⟨oi, hoi, _⟩ := hit₁'
      have hl₁' := hl₁
      obtain ⟨ol, hol, _⟩ := hl₁'
      rw [List.drop_zero]
      rw [if_neg (show ¬ (((u :: us).toArray.toList.take 1).length < 1) by simp)]
      refine wpAny_bind (wpAny_holding (PySem.W.kun_collect (s := { s with heap := h₁ }) (T := "tuple_iterator") (.inr (.inr (.inr rfl))) (Walks.tuple (A := X.A.in1) hh s.heap.objs.size a hlt (u :: us).toArray) (fun j u st => st.1.typeIs) (k := 1) (by simp) ⟨hit₁, hl₁⟩ (Heap.lt_size hoi) (Heap.lt_size hol) (fun h₂ tk hk => ?_) (by simp; omega)))
      show wpAny _ _ (if us.length < 0 then _ else _) _ _ _
      rw [if_neg (Nat.not_lt_zero _)]
      show wpAny _ _ (newList (us.take (us.length - 0)) >>= fun d => pure ([u] ++ [d] ++ us.drop (us.length - 0))) _ _ _
      rw [Nat.sub_zero, List.take_length, List.drop_length]
      have he : ∀ b o, s.heap.get? b = some o → h₂.get? b = some o := fun b o e => hk b o (Nat.ne_of_lt (Heap.lt_size e)) (hs₁.extBut b o (Nat.ne_of_lt (Heap.lt_size e)) (Heap.get?_push_of_some _ e))
      exact fin u us h₂ tk ru rus he
end
/-- max(x, key=f), min(x, key=f): f an own def -/
def cKeyed (K : PySem.W.Frag) (mx : Bool) (sp : Sp) (arr : List V → List V → List V) (te : TE) : TE := fun σ H Q => te σ H fun x H1 => ∃ (a : Addr) (xs : List V) (d : V → PyData) (R : Hp → Hp → Prop) (tp : Bool),
  x = .ref a ∧ SrcOk tp K H1 a xs ∧ ExR R ∧ (∀ x ∈ xs, ∀ y ∈ xs, alike (d x) (d y) = true) ∧ (∀ x ∈ xs, d x ≠ .none ∧ (d x).depth ≤ 60) ∧ xs ≠ [] ∧
  (∀ x ∈ xs, ∀ H', R H1 H' → sp (arr [x] []) H' (fun y H2 => R H' H2 ∧ Dp K H2 y (d x)) (fun _ _ _ => False)) ∧ ∀ H', R H1 H' → Q (bestV mx d xs) H'
theorem pe_keyed {g : G} {lev : Nat} {X : Cx} {N : List Str} {sc : Scope} {W : WX} (c : COk g lev X N sc W) (mx : Bool) {i : FnI} (hi : i ∈ g.fns) (hn : i.n = 1) (hks : i.ks = []) {x : Str} (hx : x = if mx = true then "max" else "min") (hg : Gl X x) (hm : X.mg x = none)
    (hk1 : Gl X i.name) (hk2 : plainName i.name = true) {p kp kpos pos : Pos} {e : Expr} {te : TE} (hst : notStar e = true) (he : PE X e te) :
    PE X (.Call (.Name x p) [e] [⟨some "key", .Name i.name kp, kpos⟩] pos) (cKeyed g.K mx i.sp i.arr te) := by
  obtain ⟨fa, fd, ps, gf, m1, m2, F, kb⟩ := c.gok.fns i hi
  rw [← c.hK] at m2 F kb
  rw [hn, hks] at kb
  rw [← c.hK]
  have hun := c.room.un
  have hx1 : plainName x = true := by cases mx <;> (subst hx; decide)
  have hv : bootBuiltins x = some (.builtin (if mx = true then "max" else "min")) := by cases mx <;> (subst hx; first | exact PyProof.Rows.Boot.max | exact PyProof.Rows.Boot.min)
  refine ⟨fun pins s σ H Q I h => ?_⟩
  refine wpAny_Call_Name_kw (ld_blt I hg hm hv ?_ (plain_n hx1) (plain_d hx1))
  refine args_of (first := []) (t := tCons te tNil) (tk := tCons (tC (.ref fa)) tNil) (R := fun vs zs H2 => zs = [.ref fa] ∧ ∃ (a : Addr) (xs : List V) (d : V → PyData) (R : Hp → Hp → Prop) (tp : Bool),
    vs = [.ref a] ∧ SrcOk tp X.K H2 a xs ∧ ExR R ∧ (∀ x ∈ xs, ∀ y ∈ xs, alike (d x) (d y) = true) ∧ (∀ x ∈ xs, d x ≠ .none ∧ (d x).depth ≤ 60) ∧ xs ≠ [] ∧
    (∀ x ∈ xs, ∀ H', R H2 H' → i.sp (i.arr [x] []) H' (fun y H3 => R H' H3 ∧ Dp X.K H3 y (d x)) (fun _ _ _ => False)) ∧ ∀ H', R H2 H' → Q (bestV mx d xs) H') keeps_blt (fun z => nomatch z) (by rw [List.all_cons, hst]; rfl) rfl (pa_cons he pa_nil (by cases e <;> first | rfl | exact absurd hst Bool.false_ne_true)) (pk_cons (pe_glob hk1 m1 rfl (plain_d hk2)) pk_nil) I ?_ fun vs zs us ws s2 H2 I2 r rz q => ?_
  · refine Eq.mp (congrArg (te σ H) (funext fun x => funext fun H1 => propext ⟨fun q => ?_, fun q => ?_⟩)) h
    · obtain ⟨a, xs, d, R, tp, rfl, q⟩ := q
      exact ⟨rfl, a, xs, d, R, tp, rfl, q⟩
    · obtain ⟨_, a, xs, d, R, tp, e1, q⟩ := q
      cases e1
      exact ⟨a, xs, d, R, tp, rfl, q⟩
  · obtain ⟨rfl, a, xs, d, R, tp, rfl, src, exr, al, nd, hx0, hc, hQ⟩ := q
    obtain ⟨u, rfl, ru⟩ := vals1 r
    obtain ⟨w, rfl, rw⟩ := vals1 rz
    obtain rfl : u = Value.ref a := ru
    obtain rfl : w = Value.ref fa := rw
    have hcall : ∀ (pins' : List (Addr × Obj)) (H' : Hp) (s : Shared) (x : V) (u : Value) (E : Value → Shared → Prop), x ∈ xs → RelV x u → R H2 H' → Inv X pins' σ H' s → wpAny (model X.prog X.w) X.A.in1 (call (.ref fa) [u]) (EP X pins' σ fun y H3 => R H' H3 ∧ Dp X.K H3 y (d x)) E s :=
      fun pins' H' s x u E hx ru hR I' => run_below (A := X.A.in1) c.room.in1 c.gd rfl F kb I' (.cons ru .nil) rfl (hc x hx H' hR)
    cases mx with
    | true => exact call_maxJ exr c.room.hd src al (fun x hx => (nd x hx).1) (fun x hx => by have := (nd x hx).2; omega) hcall hx0 I2 hQ
    | false => exact call_minJ exr c.room.hd src al (fun x hx => (nd x hx).1) (fun x hx => by have := (nd x hx).2; omega) hcall hx0 I2 hQ
end WR

set_option Elab.async false
set_option linter.all false
set_option maxRecDepth 100000
set_option maxHeartbeats 1000000
/-! list(enumerate(l)) -/
namespace WR
open PySem PySem.Spec PyProof.Rows L2

/-- pairs told by their places -/
def EnP (H : Hp) (xs : List V) (ts : List Addr) : Prop := ∀ j t, ts[j]? = some t → ∃ x, xs[j]? = some x ∧ H t = some (.tup [.int (j : Nat), x])
theorem EnP.ex {H H' : Hp} {xs : List V} {ts : List Addr} (x : ∀ b o, H b = some o → H' b = some o) (h : EnP H xs ts) : EnP H' xs ts := fun j t e => by
  obtain ⟨y, a, b⟩ := h j t e
  exact ⟨y, a, x _ _ b⟩
def EnSt (h : Heap) (e it S : Addr) (i : Nat) : Prop := (∃ old, IsEnum h e it (i : Int) old) ∨ ∃ old T f oT, IsEnumHeld h e it (i : Int) old T f ∧ h.get? T = some oT ∧ T ≠ e ∧ T ≠ it ∧ T ≠ S
theorem EnSt.keep {h h' : Heap} {e it S : Addr} {i : Nat} (st : EnSt h e it S i) (eS : e ≠ S) (k : ∀ b o, b ≠ S → h.get? b = some o → h'.get? b = some o) : EnSt h' e it S i := by
  rcases st with ⟨old, a⟩ | ⟨old, T, f, oT, a, b, c, d, g⟩
  · exact .inl ⟨old, k _ _ eS a⟩
  · exact .inr ⟨old, T, f, oT, k _ _ eS a, k _ _ g b, c, d, g⟩
section
variable {X : Cx} {pins : List (Addr × Obj)} {σ : St} {H0 H : Hp} {s : Shared} {A : Around} {a e it S : Addr} {xs : List V} {R : Result → Shared → Prop}
theorem fp_upd {b n : Addr} {o : HO} (f : FpOk X pins H b) (h : b ≠ n) : FpOk X pins (upd H n o) b := ⟨by rw [upd_ne h]; exact f.1, f.2⟩
theorem en_item {i : Nat} {x : V} {E : Value → Shared → Prop} {Q : Option Value → Shared → Prop} (I : Inv X pins σ H s) (hq : SqL X.K H a xs) (hx : xs[i]? = some x) (st : EnSt s.heap e it S i) (hit : s.heap.IsListIter it a i) (hne : e ≠ it) (hS : S < s.heap.objs.size)
    (fe : FpOk X pins H e) (fi : FpOk X pins H it)
    (q : ∀ h' , Inv X pins σ (upd H s.heap.objs.size (.tup [.int (i : Nat), x])) { s with heap := h', toks := s.toks + 1 } → EnSt h' e it S (i + 1) → h'.IsListIter it a (i + 1) → h'.objs.size = s.heap.objs.size + 1 → (∀ b o, b ≠ e → b ≠ it → s.heap.get? b = some o → h'.get? b = some o) →
      Q (some (.ref s.heap.objs.size)) { s with heap := h', toks := s.toks + 1 }) : wpAny (model X.prog X.w) A (pyNext (.ref e)) Q E s := by
  obtain ⟨its, rv, p, hz⟩ := I.list hq
  obtain ⟨u, hu, ru⟩ := rv.get hx
  have hil : it < s.heap.objs.size := by obtain ⟨_, q, _⟩ := hit; exact Heap.lt_size q
  have hf : ∀ b ∈ [e, it], FpOk X pins H b := fun b hb => by
    have : b = e ∨ b = it := by simpa using hb
    rcases this with rfl | rfl
    · exact fe
    · exact fi
  have fin : ∀ h', h'.get? s.heap.objs.size = some { cls := .type "tuple", data := .seq #[.int i s.toks, u] } → (∀ b o, b ≠ e → b ≠ it → s.heap.get? b = some o → h'.get? b = some o) → Inv X pins σ (upd H s.heap.objs.size (.tup [.int (i : Nat), x])) { s with heap := h', toks := s.toks + 1 } := fun h' hT hk =>
    I.turnedNew (ch := [e, it]) (fun b ob hb q => hk b ob (fun z => hb (by simp [z])) (fun z => hb (by simp [z])) q) hf (Nat.le_refl _) ⟨by show 2 ≤ sizeLine; decide, [.int i s.toks, u], .cons ⟨_, rfl⟩ (.cons ru .nil), ⟨_, hT, rfl, _, rfl⟩⟩
  have ec : ((i + 1 : Nat) : Int) = (i : Int) + 1 := by omega
  rcases st with ⟨old, he⟩ | ⟨old, T, f, oT, he, hT, c, d, g⟩
  · have hel : e < s.heap.objs.size := Heap.lt_size he
    refine wpAny_pyNext_enum_item he hit p.isList (x := u) (by simpa using hu) hne fun h' ho hit' hT hsz hk => q h' (fin h' hT hk) (.inr ⟨u, s.heap.objs.size, false, _, by rw [ec]; exact ho, hT, Nat.ne_of_gt hel, Nat.ne_of_gt hil, Nat.ne_of_gt hS⟩) hit' hsz hk
  · refine wpAny_pyNext_enum_item_held he hT c d hit p.isList (x := u) (by simpa using hu) hne fun h' ho hit' hT' hsz hk => q h' (fin h' hT' hk) (.inr ⟨old, T, true, oT, by rw [ec]; exact ho, hk T oT c d hT, c, d, g⟩) hit' hsz hk
theorem en_done {i : Nat} {E : Value → Shared → Prop} {Q : Option Value → Shared → Prop} (hh : A.handled = none) (I : Inv X pins σ H s) (hq : SqL X.K H a xs) (hx : xs.length ≤ i) (st : EnSt s.heap e it S i) (hit : s.heap.IsListIter it a i)
    (fi : FpOk X pins H it) (q : ∀ h', Heap.ExtBut it s.heap h' → Inv X pins σ H { s with heap := h' } → Q none { s with heap := h' }) : wpAny (model X.prog X.w) A (pyNext (.ref e)) Q E s := by
  obtain ⟨its, rv, p, hz⟩ := I.list hq
  have hl := rv.length
  obtain ⟨f0, f1, f2, f3, f4, f5⟩ := fi
  have fin : ∀ h', Heap.ExtBut it s.heap h' → Q none { s with heap := h' } := fun h' eb => q h' eb (I.turned (t' := s.toks) (fun b o hb e => eb b o hb e) f0 f1 f3 f4 f5)
  rcases st with ⟨old, he⟩ | ⟨old, T, f, oT, he, hT, c, d, g⟩
  · exact wpAny_pyNext_enum_end hh he hit p.isList (by simp; omega) fin
  · exact wpAny_pyNext_enum_end_held hh he hit p.isList (by simp; omega) fin
theorem en_loop (hh : A.handled = none) (hq : SqL X.K H0 a xs) (hlen : xs.length ≤ 100000) (hne : e ≠ it) (eS : e ≠ S) (iS : it ≠ S) (res : Value)
    (hR : ∀ s' H' acc c ts, Inv X pins σ H' s' → (∀ b o, H0 b = some o → H' b = some o) → FpOk X pins H' S → s'.heap.get? S = some { cls := .type "list", dict := none, data := .seq acc c, slots := #[] } → acc.toList = ts.map Value.ref → ts.length = xs.length → EnP H' xs ts → R (.ok (.ret res)) s') :
    ∀ (k i : Nat) (s : Shared) (H : Hp) (acc : Array Value) (c : Nat) (ts : List Addr), xs.length - i = k → i ≤ xs.length → Inv X pins σ H s → (∀ b o, H0 b = some o → H b = some o) → EnSt s.heap e it S i → s.heap.IsListIter it a i → FpOk X pins H e → FpOk X pins H it → FpOk X pins H S →
    s.heap.get? S = some { cls := .type "list", dict := none, data := .seq acc c, slots := #[] } → acc.toList = ts.map Value.ref → ts.length = i → EnP H xs ts → codeAny (model X.prog X.w) A (.builtin "list.extend.loop" ⟨[.ref S, .ref e, res], []⟩) R s := by
  have hsl := sizeLine_eq
  intro k
  induction k with
  | zero =>
    intro i s H acc c ts hk hi I ex st hit fe fi fS hS hacc hts ep
    refine codeAny_builtin PySem.F.entry_extend_loop ?_
    rw [Around.under_plainId PySem.F.plain_extend_loop _]
    show wpAny _ A.in1 (pyNext (.ref e) >>= _) _ _ _
    refine wpAny_bind (en_done (S := S) (A := A.in1) hh I ((sqL_exn (fun b o q _ => ex b o q) hq)) (by omega) st hit fi fun h' eb I' => ?_)
    exact wpAny_pure (hR _ H acc c ts I' ex fS (eb S _ iS.symm hS) hacc (by omega) ep)
  | succ k ih =>
    intro i s H acc c ts hk hi I ex st hit fe fi fS hS hacc hts ep
    have hlt : i < xs.length := by omega
    have hx : xs[i]? = some xs[i] := List.getElem?_eq_getElem hlt
    have hSl : S < s.heap.objs.size := Heap.lt_size hS
    have hn : H s.heap.objs.size = none := I.hok.fresh (Nat.le_refl _)
    have hsz : acc.size = i := by rw [← Array.length_toList, hacc, List.length_map, hts]
    have hil : it < s.heap.objs.size := by obtain ⟨_, q, _⟩ := hit; exact Heap.lt_size q
    have hel : e < s.heap.objs.size := by
      rcases st with ⟨_, a⟩ | ⟨_, _, _, _, a, _⟩ <;> exact Heap.lt_size a
    refine codeAny_builtin PySem.F.entry_extend_loop ?_
    rw [Around.under_plainId PySem.F.plain_extend_loop _]
    show wpAny _ A.in1 (pyNext (.ref e) >>= _) _ _ _
    refine wpAny_bind (en_item (S := S) (A := A.in1) I ((sqL_exn (fun b o q _ => ex b o q) hq)) hx st hit hne hSl fe fi fun h' I' st' hit' hsz' hk' => ?_)
    have hS' : h'.get? S = some { cls := .type "list", dict := none, data := .seq acc c, slots := #[] } := hk' S _ eS.symm iS.symm hS
    have new : ∀ b o, H b = some o → upd H s.heap.objs.size (.tup [.int (i : Nat), xs[i]]) b = some o := fun b o q => by rw [upd_ne (fun z => by rw [z, hn] at q; cases q)]; exact q
    have fS' : FpOk X pins (upd H s.heap.objs.size (.tup [.int (i : Nat), xs[i]])) S := fp_upd fS (Nat.ne_of_lt hSl)
    show wpAny _ A.in1 (updateSeq S (·.push (Value.ref s.heap.objs.size)) >>= _) _ _ _
    refine wpAny_bind ?_
    obtain ⟨f0, f1, f2, f3, f4, f5⟩ := id fS'
    have oth : ∀ b o, b ≠ S → h'.get? b = some o → (h'.update S (Obj.mapSeq (·.push (Value.ref s.heap.objs.size)))).get? b = some o := fun b o hb q => (Heap.get?_update_other _ _ (fun z => hb z.symm)).trans q
    have I2 := I'.turned (it := S) (h' := h'.update S (Obj.mapSeq (·.push (Value.ref s.heap.objs.size)))) (t' := s.toks + 1) (fun b o hb q => oth b o hb q) f0 f1 f3 f4 f5
    refine wpAny_updateSeq hS' rfl (wpAny_pure ⟨plainId_quiet PySem.F.plain_extend_loop _, ih (i + 1) _ _ (acc.push (Value.ref s.heap.objs.size)) _ (ts ++ [s.heap.objs.size]) (by omega) hlt I2 (fun b o q => new b o (ex b o q)) (st'.keep eS oth) (hit'.at fun o q => oth it o iS q) (fp_upd fe (Nat.ne_of_lt hel)) (fp_upd fi (Nat.ne_of_lt hil)) fS'
      (Heap.get?_update_self _ hS' rfl) (by rw [Array.toList_push, hacc, List.map_append]; rfl) (by rw [List.length_append, hts]; rfl) (fun j t hj => ?_)⟩) (by rw [hsz]; omega) (by show (acc.push _).size ≤ sizeLine + 1; rw [Array.size_push, hsz]; omega)
    rcases Nat.lt_trichotomy j ts.length with h1 | h1 | h1
    · rw [List.getElem?_append_left h1] at hj
      obtain ⟨y, e1, e2⟩ := ep j t hj
      exact ⟨y, e1, new _ _ e2⟩
    · subst h1
      have hb : s.heap.objs.size = t := by simpa using hj
      subst hb
      rw [hts]
      exact ⟨_, hx, upd_same⟩
    · rw [List.getElem?_eq_none (by rw [List.length_append, List.length_singleton]; omega)] at hj
      cases hj
end
theorem en_nolen : typeLookup (.type "enumerate") "__len__" = pure none := by rw [typeLookup_type, builtinLookup_eq_fast]; kernel_rfl
theorem en_nohint : typeLookup (.type "enumerate") "__length_hint__" = pure none := by rw [typeLookup_type, builtinLookup_eq_fast]; kernel_rfl
theorem en_hint {prog : Program} {w : World} {A : Around} {E : Value → Shared → Prop} {s : Shared} {r : Addr} (hT : s.TypeIs (.ref r) "enumerate") {Q : Bool → Shared → Prop} (h : Q true s) : wpAny (model prog w) A (Builtin.List.listLengthHint (.ref r)) Q E s := by
  unfold Builtin.List.listLengthHint
  refine wpAny_bind (wpAny_specialOf hT en_nolen ?_)
  show wpAny _ A (specialOf (Value.ref r) (Str.ofString "__length_hint__") >>= _) _ _ _
  refine wpAny_bind (wpAny_specialOf hT en_nohint ?_)
  exact wpAny_pure h
section
variable {X : Cx} {pins : List (Addr × Obj)} {σ : St} {H : Hp} {s : Shared} {A : Around} {a e it S : Addr} {xs : List V} {R : Result → Shared → Prop}
/-- what stands behind list(enumerate(l)) -/
def EnEnd (X : Cx) (pins : List (Addr × Obj)) (σ : St) (H : Hp) (S : Addr) (xs : List V) (s' : Shared) : Prop := ∃ H' acc c ts, Inv X pins σ H' s' ∧ (∀ b o, H b = some o → H' b = some o) ∧ FpOk X pins H' S ∧ s'.heap.get? S = some { cls := .type "list", dict := none, data := .seq acc c, slots := #[] } ∧ acc.toList = ts.map Value.ref ∧ ts.length = xs.length ∧ EnP H' xs ts
theorem s_upd {o : Obj} {vs ws : Array Value} {c c' : Nat} (I : Inv X pins σ H s) (f : FpOk X pins H S) (g : Array Value → Array Value) : Inv X pins σ H { s with heap := s.heap.update S (Obj.mapSeq g), toks := s.toks } := by
  obtain ⟨f0, f1, f2, f3, f4, f5⟩ := f
  exact I.turned (t' := s.toks) (fun b o hb e => (Heap.get?_update_other _ _ (fun z => hb z.symm)).trans e) f0 f1 f3 f4 f5
theorem en_extend (hh : A.handled = none) (I : Inv X pins σ H s) (hq : SqL X.K H a xs) (hlen : xs.length ≤ 100000) (hne : e ≠ it) (eS : e ≠ S) (iS : it ≠ S) (fe : FpOk X pins H e) (fi : FpOk X pins H it) (fS : FpOk X pins H S) {c₀ : Nat}
    (he : IsEnum s.heap e it 0 .none) (hit : s.heap.IsListIter it a 0) (hS : s.heap.get? S = some { cls := .type "list", dict := none, data := .seq #[] c₀, slots := #[] }) (res : Value) (hR : ∀ s', EnEnd X pins σ H S xs s' → R (.ok (.ret res)) s') :
    wpAny (model X.prog X.w) A.in1 (Builtin.List.listExtendWith (.ref S) (.ref e) res)
      (fun fin s' => match fin with | .done f => R (.ok f) s' | .again c' => c'.quiet = true ∧ codeAny (model X.prog X.w) A c' R s') (fun e s' => R (.error e) s') s := by
  have key : ∀ (s1 : Shared) (c₁ : Nat), Inv X pins σ H s1 → IsEnum s1.heap e it 0 .none → s1.heap.IsListIter it a 0 → s1.heap.get? S = some { cls := .type "list", dict := none, data := .seq #[] c₁, slots := #[] } → codeAny (model X.prog X.w) A (.builtin "list.extend.loop" ⟨[.ref S, .ref e, res], []⟩) R s1 := fun s1 c₁ I1 he1 hit1 hS1 =>
    en_loop (A := A) (H0 := H) hh hq hlen hne eS iS res (fun s' H' acc c ts J ex fS' h1 h2 h3 h4 => hR s' ⟨H', acc, c, ts, J, ex, fS', h1, h2, h3, h4⟩) xs.length 0 s1 H #[] c₁ [] (Nat.sub_zero _) (Nat.zero_le _) I1 (fun _ _ q => q) (.inl ⟨.none, he1⟩) hit1 fe fi fS hS1 rfl rfl fun j t hj => by simp at hj
  unfold Builtin.List.listExtendWith
  refine wpAny_bind (wpAny_typeOf (T := "enumerate") ⟨_, he, rfl⟩ ?_)
  have h1 : Builtin.List.listSameRef (.ref S) (.ref e) = false := by simp [Builtin.List.listSameRef, eS.symm]
  have h2 : (Value.type "enumerate" == Value.type "list") = false := by decide
  have h3 : (Value.type "enumerate" == Value.type "tuple") = false := by decide
  simp only [h1, h2, h3, Bool.or_false, Bool.false_eq_true, if_false]
  refine wpAny_bind (wpAny_pyIter_enum he ?_)
  refine wpAny_bind (wpAny_holding (en_hint ⟨_, he, rfl⟩ ?_))
  refine wpAny_ite_split (fun _ => ?_) (fun _ => wpAny_pure ⟨plainId_quiet PySem.F.plain_extend_loop _, key s c₀ I he hit hS⟩)
  refine wpAny_bind (wpAny_rule ?_)
  refine wpAny_bind ?_
  show wpAny _ _ (updateSeq S (·.push .none) >>= fun _ => updateSeq S (·.pop)) _ _ _
  refine wpAny_bind (wpAny_updateSeq hS rfl ?_)
  have hS₂ := Heap.get?_update_self (Obj.mapSeq (·.push Value.none)) hS rfl
  refine wpAny_updateSeq (hz := by seq_fits) hS₂ rfl ?_
  have hS₃ := Heap.get?_update_self (Obj.mapSeq (·.pop)) hS₂ rfl
  have I2 := s_upd (o := { cls := .none }) (vs := #[]) (ws := #[]) (c := 0) (c' := 0) I fS (·.push Value.none)
  have I3 := s_upd (o := { cls := .none }) (vs := #[]) (ws := #[]) (c := 0) (c' := 0) I2 fS (·.pop)
  have oth : ∀ b o, b ≠ S → s.heap.get? b = some o → ((s.heap.update S (Obj.mapSeq (·.push Value.none))).update S (Obj.mapSeq (·.pop))).get? b = some o := fun b o hb q => (Heap.get?_update_other _ _ (Ne.symm hb)).trans ((Heap.get?_update_other _ _ (Ne.symm hb)).trans q)
  exact wpAny_pure ⟨plainId_quiet PySem.F.plain_extend_loop _, key _ _ I3 (oth e _ eS he) (hit.at fun o q => oth it o iS q) hS₃⟩
theorem en_init (hh : A.handled = none) (I : Inv X pins σ H s) (hq : SqL X.K H a xs) (hlen : xs.length ≤ 100000) (hne : e ≠ it) (eS : e ≠ S) (iS : it ≠ S) (fe : FpOk X pins H e) (fi : FpOk X pins H it) (fS : FpOk X pins H S)
    (he : IsEnum s.heap e it 0 .none) (hit : s.heap.IsListIter it a 0) (hS : s.heap.get? S = some { cls := .type "list", dict := none, data := .seq #[], slots := #[] }) (hR : ∀ s', EnEnd X pins σ H S xs s' → R (.ok (.ret .none)) s') :
    wpAny (model X.prog X.w) A.in1 (Builtin.«list.__init__» ⟨[.ref S, .ref e], []⟩)
      (fun fin s' => match fin with | .done f => R (.ok f) s' | .again c' => c'.quiet = true ∧ codeAny (model X.prog X.w) A c' R s') (fun e s' => R (.error e) s') s := by
  show wpAny _ _ (do let old ← Builtin.List.listItems (.ref S); Builtin.List.listUpdate (.ref S) (fun _ => #[]); letGo old.toList.reverse; Builtin.List.listExtendWith (.ref S) (.ref e) .none) _ _ s
  refine wpAny_bind ?_
  unfold Builtin.List.listItems
  refine wpAny_bind (wpAny_seqItems hS rfl (wpAny_pure ?_))
  show wpAny _ _ (updateSeq S (fun _ => #[]) >>= fun _ => letGo (#[] : Array Value).toList.reverse >>= fun _ => Builtin.List.listExtendWith (.ref S) (.ref e) .none) _ _ s
  refine wpAny_bind (wpAny_updateSeq hS rfl ?_)
  have hS₂ := Heap.get?_update_self (Obj.mapSeq (fun _ => (#[] : Array Value))) hS rfl
  have oth : ∀ b o, b ≠ S → s.heap.get? b = some o → (s.heap.update S (Obj.mapSeq (fun _ => (#[] : Array Value)))).get? b = some o :=
    fun b o hb e => (Heap.get?_update_other _ _ (Ne.symm hb)).trans e
  have I2 := s_upd (o := { cls := .none }) (vs := #[]) (ws := #[]) (c := 0) (c' := 0) I fS (fun _ => (#[] : Array Value))
  refine wpAny_bind (wpAny_letGo ?_)
  exact en_extend hh I2 hq hlen hne eS iS fe fi fS (oth e _ eS he) (hit.at fun o q => oth it o iS q) hS₂ .none hR
/-- list(an enumerate that stands at its beginning) -/
theorem en_call {E : Value → Shared → Prop} {Q : Value → Shared → Prop} (hh : A.handled = none) (I : Inv X pins σ H s) (hq : SqL X.K H a xs) (hlen : xs.length ≤ 100000) (hne : e ≠ it) (fe : FpOk X pins H e) (fi : FpOk X pins H it)
    (he : IsEnum s.heap e it 0 .none) (hit : s.heap.IsListIter it a 0) (hQ : ∀ s', EnEnd X pins σ H s.heap.objs.size xs s' → Q (.ref s.heap.objs.size) s') :
    wpAny (model X.prog X.w) A (call (.type "list") [.ref e]) Q E s := by
  refine callType_codes (Q₁ := fun obj s₁ => obj = .ref s.heap.objs.size ∧ s₁ = { s with heap := s.heap.push { cls := .type "list", data := .seq #[] } }) PySem.F.called_list (PySem.F.typeCall_list_1 _) PySem.F.entry_list_init
    (code_list_new _ ⟨rfl, rfl⟩) fun obj s₁ h₁ => ?_
  obtain ⟨rfl, rfl⟩ := h₁
  have hS : (s.heap.push { cls := .type "list", data := .seq #[] }).get? s.heap.objs.size = some { cls := .type "list", data := .seq #[] } := Heap.get?_push_size _ rfl
  have hel : e < s.heap.objs.size := Heap.lt_size he
  have hil : it < s.heap.objs.size := by obtain ⟨_, q, _⟩ := hit; exact Heap.lt_size q
  have hn : H s.heap.objs.size = none := I.hok.fresh (Nat.le_refl _)
  have fS : FpOk X pins H s.heap.objs.size := I.fpOk (Nat.le_refl _) hn
  have I1 : Inv X pins σ H { s with heap := s.heap.push { cls := .type "list", data := .seq #[] }, toks := s.toks } := I.kept (t' := s.toks) fun b o q => Heap.get?_push_of_some _ q
  refine ⟨⟨_, hS, rfl⟩, PySem.F.args_list_init_2 _ _, en_init (A := A.in1) hh I1 hq hlen hne (Nat.ne_of_lt hel) (Nat.ne_of_lt hil) fe fi fS (Heap.get?_push_of_some _ he) (hit.at fun o q => Heap.get?_push_of_some _ q) hS fun s' h => ?_⟩
  exact ⟨rfl, hQ s' h⟩
end
section
variable {X : Cx} {pins : List (Addr × Obj)} {σ : St} {H : Hp} {s : Shared} {S : Addr} {xs : List V}
theorem vals_refs' : ∀ ts : List Addr, Vals (ts.map V.ref) (ts.map Value.ref)
  | [] => .nil
  | _ :: ts => .cons rfl (vals_refs' ts)
theorem en_tracked (h : EnEnd X pins σ H S xs s) (hlen : xs.length ≤ 100000) : ∃ H' ts, Inv X pins σ H' s ∧ (∀ b o, H b = some o → H' b = some o) ∧ H' S = some (.lst (ts.map V.ref)) ∧ ts.length = xs.length ∧ EnP H' xs ts := by
  obtain ⟨H1, acc, c, ts, I, ex, fS, hS, hacc, hl, ep⟩ := h
  have hsl := sizeLine_eq
  have kp : ∀ b u, H1 b = some u → upd H1 S (.lst (ts.map V.ref)) b = some u := fun b u q => by
    rw [upd_ne (fun z => by rw [z, fS.1] at q; cases q)]; exact q
  refine ⟨upd H1 S (.lst (ts.map V.ref)), ts, ?_, fun b o q => kp b o (ex b o q), upd_same, hl, ep.ex kp⟩
  obtain ⟨f0, f1, f2, f3, f4, f5⟩ := fS
  refine I.step (g' := s.gens) (d' := s.drawn) (t' := s.toks) (h' := s.heap) (ch := [S]) (fun b hb => ?_) (fun b o _ _ _ q _ => q) (fun b o _ _ _ q _ => ⟨o.slots, q⟩) (fun b o hb q n => ?_) (fun b o _ q => ⟨o, q⟩) (fun b us q => kp b _ q) (fun b o u q => kp b _ q) (fun b ps q => ⟨#[], by rw [kp b _ q]; simp⟩) (fun m hm => hm) (fun b u q => ?_) I.bare
  · have : b = S := by simpa using hb
    subst this
    exact ⟨f3, f1, f4, f5⟩
  · rw [upd_ne (by simpa using hb)]; exact n
  · by_cases hb : b = S
    · subst hb
      rw [upd_same] at q
      cases q
      refine ⟨by rw [List.length_map]; omega, acc.toList, c, by rw [hacc]; exact vals_refs' ts, ?_⟩
      rw [Array.toArray_toList]
      exact hS
    · rw [upd_ne hb] at q
      exact (I.hok b u q).stay (fun d v _ y => y) (fun d y => kp d _ y) fun d ys y => kp d _ y
end
/-- list(enumerate(l)) -/
def cLEn (K : PySem.W.Frag) (te : TE) : TE := fun σ H Q => te σ H fun x H1 => ∃ a xs, x = .ref a ∧ SqL K H1 a xs ∧ xs.length ≤ 100000 ∧ ∀ S H' ts, H1 S = none → (∀ b o, H1 b = some o → H' b = some o) → H' S = some (.lst (ts.map V.ref)) → ts.length = xs.length → EnP H' xs ts → Q (.ref S) H'
theorem pe_listEnum {X : Cx} {e : Expr} {te : TE} {p p2 pos pos2 : Pos} (hh : X.A.handled = none) (he : PE X e te) (hst : notStar e = true) (hg : Gl X "list") (hm : X.mg "list" = none) (hg2 : Gl X "enumerate") (hm2 : X.mg "enumerate" = none) :
    PE X (.Call (.Name "list" p) [.Call (.Name "enumerate" p2) [e] [] pos2] [] pos) (cLEn X.K te) := by
  refine ⟨fun pins s σ H Q I hq => ?_⟩
  have hs : starEach [.Call (.Name "enumerate" p2) [e] [] pos2] X.env = (false, eval (.Call (.Name "enumerate" p2) [e] [] pos2) X.env) :: starEach [] X.env := rfl
  have hs2 : starEach [e] X.env = [(false, eval e X.env)] := by cases e <;> first | rfl | exact absurd hst Bool.false_ne_true
  refine wpAny_Call_Name_kw (ld_blt I hg hm PyProof.Rows.Boot.«list» ?_)
  refine PyProof.Rows.callWith_type1 ?_ hs rfl
  rw [hs]
  show wpAny _ _ (spliced ((false, eval (.Call (.Name "enumerate" p2) [e] [] pos2) X.env) :: backTo pos (starEach [] X.env))) _ _ s
  refine Calls.spliced_cons ?_
  refine wpAny_Call_Name_kw (ld_blt I hg2 hm2 boot_enumerate ?_)
  refine PyProof.Rows.callWith_type1 ?_ hs2 rfl
  rw [hs2]
  show wpAny _ _ (spliced ((false, eval e X.env) :: backTo pos2 (starEach [] X.env))) _ _ s
  refine Calls.spliced_cons (thn (he.run pins s σ H _ I hq) fun u s1 ⟨x, H1, I1, rx, a, xs, ex, hq1, hl, q⟩ => ?_)
  subst ex
  obtain rfl : u = Value.ref a := rx
  refine Calls.spliced_nil ?_
  obtain ⟨its, rv, p', hz⟩ := I1.list hq1
  refine call_enumerate_list p'.isList fun h' hen hit hsz hk => ?_
  have I2 : Inv X pins σ H1 { s1 with heap := h' } := I1.kept (t' := s1.toks) hk
  refine Calls.spliced_nil ?_
  have fe : FpOk X pins H1 (s1.heap.objs.size + 1) := I1.fpOk (Nat.le_succ _) (I1.hok.fresh (Nat.le_succ _))
  have fi : FpOk X pins H1 s1.heap.objs.size := I1.fpOk (Nat.le_refl _) (I1.hok.fresh (Nat.le_refl _))
  refine en_call hh I2 hq1 hl (Nat.succ_ne_self _) fe fi hen hit fun s' hend => ?_
  have hn : H1 h'.objs.size = none := I2.hok.fresh (Nat.le_refl _)
  obtain ⟨H', ts, J, k1, k2, k3, k4⟩ := en_tracked hend hl
  exact ⟨.ref _, H', J, rfl, q _ H' ts hn k1 k2 k3 k4⟩
end WR

set_option Elab.async false
set_option linter.all false
set_option maxRecDepth 100000
set_option maxHeartbeats 4000000
/-! enumerate of a tuple -/
namespace WR
open PySem PySem.Spec PyProof.Rows L2
theorem meets_enumerate_newB1 {v : Value} {o : Obj} {H : Heap → Prop} (B : Begins v o H) :
    Meets (Builtin.«enumerate.__new__» ⟨[.type "enumerate", v], []⟩) (fun _ R s => H s.heap ∧
      R (.ok (.ret (.ref (s.heap.push o).objs.size))) { s with heap := (s.heap.push o).push { cls := .type "enumerate", data := .fields #[.none, .bool false, .ref s.heap.objs.size, rawInt 0, .none, .none] } }) :=
  .of_wp fun prog w A R s h => by
    obtain ⟨hp, g, d, tk, os⟩ := s; obtain ⟨h1, h⟩ := h
    have hsub := sub_enumerate
    have q1 : ∀ {A' : Around} {E : Value → Shared → Prop} {Q : Value → Shared → Prop}, Q (.ref hp.objs.size) ⟨hp.push o, g, d, tk, os⟩ → wpAny (model prog w) A' (pyIter v) Q E ⟨hp, g, d, tk, os⟩ :=
      fun q => B.iter prog w _ _ ⟨hp, g, d, tk, os⟩ _ h1 q
    wp_walk using q1
    refine wpAny_stack_any fun st => wpAny_pure ?_
    split
    · rename_i c _ _ _ _ _
      cases (c == Value.type "enumerate")
      · wp_walk using q1
        exact ⟨_, rfl, h⟩
      · wp_walk using q1
        exact ⟨_, rfl, h⟩
    · wp_walk using q1
      exact ⟨_, rfl, h⟩
theorem call_enumerate_tuple {prog : Program} {w : World} {A : Around} {E : Value → Shared → Prop} {s : Shared} {l : Addr} {items : Array Value} {Q : Value → Shared → Prop} (hL : s.heap.IsTuple l items)
    (h : ∀ h', IsEnum h' (s.heap.objs.size + 1) s.heap.objs.size 0 .none → h'.IsTupleIter s.heap.objs.size l 0 → h'.objs.size = s.heap.objs.size + 2 →
      (∀ b o, s.heap.get? b = some o → h'.get? b = some o) → Q (.ref (s.heap.objs.size + 1)) { s with heap := h' }) :
    wpAny (model prog w) A (call (.type "enumerate") [.ref l]) Q E s := by
  refine callType_new F.called_enumerate (by decide) (F.typeCall_enumerate_1 _) (F.newCall_enumerate_1 _) (fun obj => F.args_object_init_2 obj _) F.entry_enumerate_new
    (meets_enumerate_newB1 (begins_tuple l items)) ⟨hL, ?_⟩
  have hz : (s.heap.push { cls := .type "tuple_iterator", data := .fields #[.ref l, .int 0 0] }).objs.size = s.heap.objs.size + 1 := Heap.size_push ..
  show _ ∧ _
  rw [hz]
  have he : IsEnum ((s.heap.push { cls := .type "tuple_iterator", data := .fields #[.ref l, .int 0 0] }).push
      { cls := .type "enumerate", data := .fields #[.none, .bool false, .ref s.heap.objs.size, rawInt 0, .none, .none] }) (s.heap.objs.size + 1) s.heap.objs.size 0 .none := by
    have := Heap.get?_push_size (s.heap.push { cls := .type "tuple_iterator", data := .fields #[.ref l, .int 0 0] })
      (o := { cls := .type "enumerate", data := .fields #[.none, .bool false, .ref s.heap.objs.size, rawInt 0, .none, .none] }) rfl
    rw [hz] at this; exact this
  refine ⟨⟨_, he, rfl⟩, h _ he ⟨_, Heap.get?_push_of_some _ (Heap.get?_push_size _ rfl), rfl, rfl⟩ (by rw [Heap.size_push, hz]) fun b o x => Heap.get?_push_of_some _ (Heap.get?_push_of_some _ x)⟩
/-- the tuple at a, each item in a new pair -/
def IteT (K : PySem.W.Frag) (a : Addr) : It :=
  ⟨fun i H => ∃ (xs : List V) (x : V), SqT K H a xs ∧ xs[i]? = some x, fun i H v H' => ∃ T x, v = .ref T ∧ H T = none ∧ H' = upd H T (.tup [.int (i : Nat), x]) ∧ ∀ xs, SqT K H a xs → xs[i]? = some x, fun i H => ∃ xs : List V, SqT K H a xs ∧ xs.length = i⟩
theorem turn_enumT {P : Program} {w : World} {K : PySem.W.Frag} {elts : List Expr} {kk : Nat} {tpos : Pos} (a e it : Addr) :
    Turn P w K (.Tuple elts kk tpos) (IteT K a) [e, it] e (fun i h => (∃ old, IsEnum h e it ((i : Nat) : Int) old) ∧ h.IsTupleIter it a i ∧ e ≠ it ∧ e ≠ a ∧ a ≠ it) where
  mem := by simp
  obj := fun i h st b hb => by
    obtain ⟨⟨old, he⟩, ⟨o, ho, hc, hd⟩, _⟩ := st
    have e' : b = e ∨ b = it := by simpa using hb
    rcases e' with z | z
    · rw [z]; exact ⟨_, he, fun v q => nomatch q⟩
    · rw [z]; exact ⟨o, ho, fun v q => by rw [hd] at q; cases q⟩
  keep := fun i h h' st k => let ⟨⟨old, he⟩, hi, hne⟩ := st; ⟨⟨old, k e (by simp) _ he⟩, hi.at fun o q => k it (by simp) o q, hne⟩
  item := by
    intro X hP hw hK hc i pins s σ H E I hf st hg
    subst hP hw hK
    obtain ⟨⟨old, he⟩, hit, hne, hea, hai⟩ := st
    obtain ⟨xs, x, hq, hx⟩ := hg
    obtain ⟨its, rv, p, hz⟩ := I.tuple hq
    obtain ⟨u, hu, ru⟩ := rv.get hx
    have hel : e < s.heap.objs.size := Heap.lt_size he
    have hil : it < s.heap.objs.size := by obtain ⟨_, q, _⟩ := hit; exact Heap.lt_size q
    have hlt : i < its.toArray.size := by
      have := (List.getElem?_eq_some_iff.mp hu).1
      simpa using this
    refine wpAny_pyNext_enum_itemD (Draws.tuple (A := X.A.in1) (I.ok.hd hc) it a hai its.toArray) he ⟨hit, p⟩ hlt hne (by simp [hea, hne]) fun x' h' tk hPx ho hst hT hsz hk => ?_
    obtain rfl : u = x' := by
      have h2 : its[i]? = some x' := by simpa using hPx
      rw [hu] at h2; exact Option.some.inj h2
    refine ⟨_, rfl, wpAny_letOwnedTupleGo_enum (s := { s with heap := h', toks := tk + 1 }) ho fun h'' he' sb => ?_⟩
    have hT2 : h''.get? s.heap.objs.size = some { cls := .type "tuple", data := .seq #[.int i tk, u] } := (sb.2 _ (Nat.ne_of_gt hel)).trans hT
    have new : ObjOk X.prog X.w (upd H s.heap.objs.size (.tup [.int (i : Nat), x])) h'' s.heap.objs.size (.tup [.int (i : Nat), x]) :=
      ⟨by show 2 ≤ sizeLine; decide, [.int i tk, u], .cons ⟨_, rfl⟩ (.cons ru .nil), ⟨_, hT2, rfl, _, rfl⟩⟩
    have I1 : Inv X pins σ (upd H s.heap.objs.size (.tup [.int (i : Nat), x])) { s with heap := h'', toks := tk + 1 } :=
      I.turnedNew (ch := [e, it]) (fun b ob hb q => (sb.2 b (fun z => hb (by simp [z]))).trans (hk b ob (fun z => hb (by simp [z])) (fun z => hb (by simp [z])) q)) hf (Nat.le_refl _) new
    refine ⟨.ref s.heap.objs.size, _, I1, rfl, ⟨_, x, rfl, I.hok.fresh (Nat.le_refl _), rfl, fun ys hy => by rw [I.tuple_inj hy hq]; exact hx⟩, ⟨⟨u, ?_⟩, hst.1.at fun o q => (sb.2 it (Ne.symm hne)).trans q, hne, hea, hai⟩, fun b hb => ?_⟩
    · have e1 : ((i + 1 : Nat) : Int) = (i : Int) + 1 := by omega
      rw [e1]; exact he'
    · have hb' : b < s.heap.objs.size := by
        have e' : b = e ∨ b = it := by simpa using hb
        rcases e' with z | z
        · rw [z]; exact hel
        · rw [z]; exact hil
      rw [upd_ne (Nat.ne_of_lt hb')]
      exact (hf b hb).1
  done := by
    intro X hP hw hK hc i pins s σ H E I hf st hg
    subst hP hw hK
    obtain ⟨⟨old, he⟩, hit, hne, hea, hai⟩ := st
    obtain ⟨xs, hq, hx⟩ := hg
    obtain ⟨its, rv, p, hz⟩ := I.tuple hq
    obtain ⟨f0, f1, f2, f3, f4, f5⟩ := hf it (by simp)
    have hl := rv.length
    have hz2 : its.toArray.size = i := by simp; omega
    exact wpAny_pyNext_enum_endD (Draws.tuple (A := X.A.in1) (I.ok.hd hc) it a hai its.toArray) he ⟨by rw [hz2]; exact hit, p⟩ fun h' eb => ⟨rfl, I.turned (t' := s.toks) (fun b o hb q => eb b o hb q) f0 f1 f3 f4 f5⟩
  self := fun A i s Q E st h => let ⟨⟨_, he⟩, _⟩ := st; wpAny_pyIter_enum he h
def iEnumB (K : PySem.W.Frag) (ta : TA) : TI := fun σ H R => ta σ H fun vs H1 => ∃ a xs, vs = [.ref a] ∧ ((SqL K H1 a xs ∧ R (Ite K a) H1) ∨ (SqT K H1 a xs ∧ R (IteT K a) H1))
theorem pi_enumB {X : Cx} {e : Expr} {ta : TA} {p pos tpos : Pos} {elts : List Expr} {kk : Nat} (hg : Gl X "enumerate") (hm : X.mg "enumerate" = none) (ha : PA X [e] ta) (hs : starEach [e] X.env = [(false, eval e X.env)] := by rfl) :
    PI X (.Tuple elts kk tpos) (.Call (.Name "enumerate" p) [e] [] pos) (iEnumB X.K ta) := by
  refine ⟨fun pins s σ H R I h => ?_⟩
  refine Call_ (ld_blt I hg hm boot_enumerate (PyProof.Rows.callWith_type1 (thn (ha.run pos pins s σ H _ I h) fun us s1 ⟨vs, H1, I1, r1, q1⟩ => ?_) hs rfl))
  obtain ⟨a, xs, ex, q⟩ := q1
  subst ex
  cases r1 with
  | cons r rr =>
    cases rr
    cases r
    have fps : ∀ b ∈ [s1.heap.objs.size + 1, s1.heap.objs.size], FpOk X pins H1 b := fun b hb => by
      have e' : b = s1.heap.objs.size + 1 ∨ b = s1.heap.objs.size := by simpa using hb
      have hle : s1.heap.objs.size ≤ b := by
        rcases e' with z | z
        · rw [z]; exact Nat.le_add_right _ _
        · rw [z]; exact Nat.le_refl _
      exact I1.fpOk hle (I1.hok.fresh hle)
    rcases q with ⟨hq, q⟩ | ⟨hq, q⟩
    · obtain ⟨its, rv, p', hz⟩ := I1.list hq
      refine call_enumerate_list p'.isList fun h' he hit hsz hk => wpAny_pyIter_enum he ?_
      have I2 : Inv X pins σ H1 { s1 with heap := h' } := I1.kept (t' := s1.toks) hk
      exact ⟨s1.heap.objs.size + 1, [s1.heap.objs.size + 1, s1.heap.objs.size], _, _, H1, rfl, I2, turn_enum a (s1.heap.objs.size + 1) s1.heap.objs.size, ⟨⟨.none, he⟩, hit, Nat.succ_ne_self _⟩, fps, q⟩
    · obtain ⟨its, rv, p', hz⟩ := I1.tuple hq
      have hal : a < s1.heap.objs.size := by obtain ⟨_, q, _⟩ := p'; exact Heap.lt_size q
      refine call_enumerate_tuple p' fun h' he hit hsz hk => wpAny_pyIter_enum he ?_
      have I2 : Inv X pins σ H1 { s1 with heap := h' } := I1.kept (t' := s1.toks) hk
      exact ⟨s1.heap.objs.size + 1, [s1.heap.objs.size + 1, s1.heap.objs.size], _, _, H1, rfl, I2, turn_enumT a (s1.heap.objs.size + 1) s1.heap.objs.size, ⟨⟨.none, he⟩, hit, Nat.succ_ne_self _, Nat.ne_of_gt (Nat.lt_succ_of_lt hal), Nat.ne_of_lt hal⟩, fps, q⟩
end WR

set_option Elab.async false
set_option linter.all false
set_option maxRecDepth 100000
set_option maxHeartbeats 4000000
namespace WR
open PySem PySem.Spec PyProof.Rows L2
open PySem.W (alike)

/-! ## lambdas as keys -/
/-- the same context, more objects held as they are -/
abbrev pnX (X : Cx) (q : List (Addr × Obj)) : Cx := { X with pn := X.pn ++ q }
section
variable {X : Cx} {pins q : List (Addr × Obj)} {σ : St} {H : Hp} {s : Shared}
theorem ok_pn (k : X.Ok) : (pnX X q).Ok := by
  obtain ⟨k1, k2, k3, k4, k5, k6, k7, k8, k9, k10, k11, k12, k13, k14, k15, k16, k17, k18⟩ := k
  exact ⟨k1, k2, k3, k4, k5, k6, k7, k8, k9, k10, k11, k12, k13, k14, k15, k16, k17, k18⟩
theorem inv_pn (I : Inv X pins σ H s) (hq : ∀ p ∈ q, s.heap.get? p.1 = some p.2 ∧ H p.1 = none ∧ p.1 ≠ X.env.locals ∧ p.1 ∉ X.fs ∧ ∀ v, p.2.data ≠ .cell v) : Inv (pnX X q) pins σ H s := by
  refine ⟨ok_pn I.ok, I.os, I.bare, I.base, I.loc, I.cell, I.free, I.freeC, fun p hp => ?_, I.hok, I.len⟩
  rcases List.mem_append.mp hp with hp | hp
  · rcases List.mem_append.mp hp with hp | hp
    · exact I.pin p (List.mem_append_left _ hp)
    · exact hq p hp
  · exact I.pin p (List.mem_append_right _ hp)
theorem inv_unpn (ok : X.Ok) (I : Inv (pnX X q) pins σ H s) : Inv X pins σ H s :=
  ⟨ok, I.os, I.bare, I.base, I.loc, I.cell, I.free, I.freeC, fun p hp => by
    rcases List.mem_append.mp hp with hp | hp
    · exact I.pin p (List.mem_append_left _ (List.mem_append_left _ hp))
    · exact I.pin p (List.mem_append_right _ hp), I.hok, I.len⟩
theorem inv_pnAt {p : Addr × Obj} (I : Inv (pnX X [p]) pins σ H s) : s.heap.get? p.1 = some p.2 ∧ H p.1 = none := by
  have z := I.pin p (List.mem_append_left _ (List.mem_append_right _ List.mem_cons_self))
  exact ⟨z.1, z.2.1⟩
end
/-- the lambda's words -/
abbrev laF (qual : Str) (params : Arguments) (scope : Scope) (cl : List (Str × Addr)) (c : Addr) : NdefX.NF := ⟨"<lambda>", qual, params, [], scope, cl, c⟩
/-- the lambda's call, by its body's reading -/
theorem la_run {CX : CXT} {P : Program} {w : World} {K : PySem.W.Frag} {mg : Str → Option Value} {base : Heap} {N ps fr : List Str} {qual : Str} {params : Arguments} {be : Expr} {scope : Scope} {cl : List (Str × Addr)} {c f : Addr} {pm ctv : Value} {k : Nat}
    {A : Around} {outer : List Env} {s : Shared} {H : Hp} {us : List Value} {vs : List V} {ws : List (Option V)} {Q : VK} {E : XK} {t : TE}
    (S : NdefX.NScope N ps fr scope) (hb : bindArgs (PySem.W.kla_fn "<lambda>" qual params be scope cl pm (.ref c) ctv) ⟨us, []⟩ = pure (ps.zip us)) (hl : vs.length = ps.length)
    (hr : Room (k + 1) A) (e0 : Env0 P w K mg base A outer s H) (hf : s.heap.get? f = some (PySem.W.kla_obj "<lambda>" qual params be scope cl pm c ctv)) (hc : H c = some (LamX.CodeO c qual)) (C : NdefX.CellsAt cl fr ws s.heap H) (r : Vals vs us)
    (ht : PE (NdefX.ncx CX P w K mg base N (laF qual params scope cl c) f A outer s H E) be t) (hq : t (NdefX.startF N vs ws) H Q) :
    codeAny (model P w) A (.call (.ref f) ⟨us, []⟩) (CR CX outer P w H s Q E) s := by
  have nl : s.heap.NoLimit := e0.mod.nolimit.keeps fun b o z => (e0.bs b o z).1
  refine PySem.W.kla_callFunE (fd := PySem.W.kla_fn "<lambda>" qual params be scope cl pm (.ref c) ctv) hr.depth hf rfl S.co S.gen rfl (NdefX.codeO_at e0.hok hc) ?_
  rw [hb]
  refine wpAny_pure (wpAny_newFunctionEnv S.nocell (fun ⟨n, _⟩ hy => S.par n (List.of_mem_zip hy).1) (fun h₁ hns hsb => ⟨nl.fresh _ hsb, ?_⟩) S.kind)
  have kept : ∀ b o, s.heap.get? b = some o → h₁.get? b = some o := fun b o z => hsb.extBut b o (Nat.ne_of_lt (Heap.lt_size z)) (Heap.get?_push_of_some _ z)
  have I : Inv (NdefX.ncx CX P w K mg base N (laF qual params scope cl c) f A outer s H E) [] (NdefX.startF N vs ws) H { s with heap := h₁, toks := s.toks + (ps.zip us).length } := NdefX.inv_startN S hr.hd e0 hl r C hns kept
  refine PySem.W.kla_codeExpr ?_
  refine wpAny_mono (ht.run [] _ _ H _ I hq) (fun u s' ⟨v, H', J, rv, q⟩ => ?_) fun _ _ z => z
  exact ⟨v, H', J.os, J.bare, J.base, J.hok, rv, q⟩
section
variable {X : Cx} {pins : List (Addr × Obj)} {σ : St} {H : Hp} {s : Shared}
/-- f(e, key=lambda ..): e's value, then the lambda -/
theorem args_lam {fv : Value} {T : List (Addr × Str)} {c P : Addr} {qual : Str} {params : Arguments} {be e : Expr} {scope : Scope} {lpos kpos pos : Pos} {te : TE} {Q : Value → Shared → Prop} {Rr : V → Hp → Prop}
    (hk : Keeps X fv) (la : LaOk X T c P qual) (hst : notStar e = true) (he : PE X e te) (hdef : defaultsOf params X.env = ([], []))
    (hfree : ∀ y ∈ scope.names, y.2 = .free → X.env.scope.names.lookup y.1 = some .cell ∨ X.env.scope.names.lookup y.1 = some .free) (I : Inv X pins σ H s) (q : te σ H fun x H1 => LamX.Tabs T H1 ∧ Rr x H1)
    (hf : ∀ x u H1 f c' pm ctv H2 s2, RelV x u → Rr x H1 → LamX.ExtN H1 H2 → LamX.Tabs T H2 → Inv (pnX X [(f, PySem.W.kla_obj "<lambda>" qual params be scope (cloFrom X.env.cells scope.names []) pm c' ctv)]) pins σ H2 s2 → H2 c' = some (LamX.CodeO c' qual) → wpAny (model X.prog X.w) X.A (call fv [u] [(("key" : Str), .ref f)]) Q X.xe s2) :
    wpAny (model X.prog X.w) X.A (callWith pos fv [] (backTo pos (starEach [e] X.env)) (backToKw pos (keywordEach [⟨some ("key" : Str), .Lambda params be scope lpos, kpos⟩] X.env))) Q X.xe s := by
  obtain ⟨k1, k2, k3, k4⟩ := kw_all (kws := [⟨some ("key" : Str), .Lambda params be scope lpos, kpos⟩]) (ks := ["key"]) (env := X.env) (pos := pos) rfl
  refine PySem.W.callWith_of (P := X.K.In) ?_ hk (PyProof.Rows.evalArgs_kw2 k1 ?_ (star_of hst))
  rotate_left
  · refine thn ((pa_cons he pa_nil (star_of hst)).run pos pins s σ H _ I (?_ : (tCons te tNil) σ H fun vs H1 => ∃ x, vs = [x] ∧ (LamX.Tabs T H1 ∧ Rr x H1))) fun us s1 ⟨vs, H1, I1, r, x, e1, ht, hr⟩ => ?_
    · exact Eq.mp (congrArg (te σ H) (funext fun x => funext fun H1 => propext ⟨fun z => ⟨x, rfl, z⟩, fun ⟨x', z1, z2⟩ => by cases z1; exact z2⟩)) q
    subst e1
    obtain ⟨u, rfl, ru⟩ := vals1 r
    · show wpAny _ _ (evalAll ((do let v ← eval (.Lambda params be scope lpos) X.env; standAt pos; pure v) :: [])) _ _ s1
      refine wpAny_evalAll_cons (wpAny_bind (LamX.lam_make2 I1 la.tb la.code (la.qual ▸ la.mem) (fun p hp z => (la.uni p hp z).trans la.qual) ht hdef (fun y hy z => (hfree y hy z).elim (fun z => I1.ok.has _ (.inl z)) fun z => I1.ok.has _ (.inr z)) fun f c' pm ctv H2 s2 I2 x2 t2 ho hn hfs hco => wpAny_bind (wpAny_standAt (wpAny_pure (wpAny_evalAll_nil ⟨I2.kIn, ?_⟩)))))
      rw [k3, ← la.qual] at *
      refine hf x u H1 f c' pm ctv H2 s2 ru hr x2 t2 (inv_pn I2 fun p hp => ?_) hco
      rw [List.mem_singleton] at hp
      subst hp
      refine ⟨ho, hn, fun z => ?_, fun z => hfs ?_, fun v z => nomatch z⟩
      · obtain ⟨m, ⟨o, es, ep, e1, e2, _⟩, _⟩ := I2.loc
        rw [← z, ho] at e1
        cases e1
        cases e2
      · rcases I2.ok.stk with e | ⟨e, hf2⟩
        · rw [e]; exact z
        · rw [e]
          unfold frs
          rw [List.filterMap_cons, hf2]
          exact List.mem_cons_of_mem _ z
  · rw [k2, star_all (by rw [List.all_cons, hst]; rfl)]; rfl
/-- the words of a lambda with one parameter, as they stand in its maker -/
structure LaW (X : Cx) (N' : List Str) (px : Str) (fr : List Str) (js : List Nat) (params : Arguments) (be : Expr) (scope : Scope) (qual : Str) : Prop where
  S : NdefX.NScope N' [px] fr scope
  bnd : ∀ (cl : List (Str × Addr)) (pm ctv u : Value) (c' : Addr), bindArgs (PySem.W.kla_fn "<lambda>" qual params be scope cl pm (.ref c') ctv) ⟨[u], []⟩ = pure [(px, u)]
  free : ∀ y ∈ scope.names, y.2 = .free → X.env.scope.names.lookup y.1 = some .cell ∨ X.env.scope.names.lookup y.1 = some .free
  frm : ∀ y ∈ fr, (y, NameKind.free) ∈ scope.names
  ixs : js.map (fun j => X.N[j]?) = fr.map some
/-- its body's reading holds wherever it is called -/
def LaB (X : Cx) (k : Nat) (N' : List Str) (params : Arguments) (be : Expr) (scope : Scope) (qual : Str) (tb : TE) : Prop :=
  ∀ (f c' : Addr) (A' : Around) (s : Shared) (H : Hp), Room k (A'.deeper (NdefX.envF (laF qual params scope (cloFrom X.env.cells scope.names []) c') f s.heap.objs.size)) → A'.guards = some [] →
    PE (NdefX.ncx (L2N.CX X.prog X.w) X.prog X.w X.K X.mg X.base N' (laF qual params scope (cloFrom X.env.cells scope.names []) c') f A' X.stack s H (fun _ _ _ => False)) be tb
theorem la_key {A' : Around} {k : Nat} {N' fr : List Str} {px qual : Str} {js : List Nat} {params : Arguments} {be : Expr} {scope : Scope} {tb : TE} {f c' : Addr} {pm ctv u : Value} {x : V} {Q : VK} {E : Value → Shared → Prop}
    (w : LaW X N' px fr js params be scope qual) (b : LaB X k N' params be scope qual tb) (hA : A'.frames = X.A.frames) (hr : Room (k + 1) A') (gd : A'.guards = some [])
    (I : Inv (pnX X [(f, PySem.W.kla_obj "<lambda>" qual params be scope (cloFrom X.env.cells scope.names []) pm c' ctv)]) pins σ H s) (hc : H c' = some (LamX.CodeO c' qual)) (ru : RelV x u) (q : tb (NdefX.startF N' [x] (js.map (NdefX.slotAt σ))) H Q) :
    wpAny (model X.prog X.w) A' (call (.ref f) [u]) (EP (pnX X [(f, PySem.W.kla_obj "<lambda>" qual params be scope (cloFrom X.env.cells scope.names []) pm c' ctv)]) pins σ Q) E s := by
  have e := I.env0
  have e0 : Env0 X.prog X.w X.K X.mg X.base A' X.stack s H := ⟨by rw [hA]; exact e.frames, e.mod, e.bs, e.bsz, e.funs, e.frf, e.hok, e.bare⟩
  have C := NdefX.cells_of I (NdefX.Caps.made (X := pnX X [(f, PySem.W.kla_obj "<lambda>" qual params be scope (cloFrom X.env.cells scope.names []) pm c' ctv)]) I.ok w.free w.frm w.ixs)
  refine wpAny_call (codeAny_mono (la_run (CX := L2N.CX X.prog X.w) (E := fun _ _ _ => False) (Q := Q) w.S (w.bnd _ _ _ u _) rfl hr e0 (inv_pnAt I).1 hc C (.cons ru .nil) (b f c' A' s H (hr.deeper _) gd) q) fun r s' hq => ?_)
  cases r with
  | error e => obtain ⟨_, _, _, _, _, _, _, _, _, _, _, _, z⟩ := hq; exact z.elim
  | ok fl =>
    cases fl with
    | ret u => exact I.after hq
    | next => exact False.elim hq
    | brk => exact False.elim hq
    | cont => exact False.elim hq
/-- min(e, key=lambda ..): the first least -/
def cMinL (K : PySem.W.Frag) (T : List (Addr × Str)) (N' : List Str) (js : List Nat) (tb te : TE) : TE := fun σ H Q => te σ H fun x H1 => LamX.Tabs T H1 ∧ ∃ (a : Addr) (xs : List V) (d : V → PyData) (R : Hp → Hp → Prop), x = .ref a ∧ SqL K H1 a xs ∧ ExR R ∧
  (∀ x ∈ xs, ∀ y ∈ xs, alike (d x) (d y) = true) ∧ (∀ x ∈ xs, d x ≠ .none ∧ (d x).depth ≤ 60) ∧ xs ≠ [] ∧ ∀ H2, LamX.ExtN H1 H2 → LamX.Tabs T H2 →
  (∀ x ∈ xs, ∀ H', R H2 H' → tb (NdefX.startF N' [x] (js.map (NdefX.slotAt σ))) H' (fun y H3 => R H' H3 ∧ Dp K H3 y (d x))) ∧ ∀ H', R H2 H' → Q (bestV false d xs) H'
theorem pe_minL {T : List (Addr × Str)} {c P : Addr} {k : Nat} {N' fr : List Str} {px qual : Str} {js : List Nat} {params : Arguments} {be e : Expr} {scope : Scope} {lpos kpos p pos : Pos} {tb te : TE}
    (la : LaOk X T c P qual) (w : LaW X N' px fr js params be scope qual) (b : LaB X k N' params be scope qual tb) (hdef : defaultsOf params X.env = ([], [])) (hst : notStar e = true) (he : PE X e te)
    (hr : Room (k + 2) X.A) (gd : X.A.guards = some []) (hun : X.A.units + 100 < cLine) (hg : Gl X "min") (hm : X.mg "min" = none) :
    PE X (.Call (.Name "min" p) [e] [⟨some "key", .Lambda params be scope lpos, kpos⟩] pos) (cMinL X.K T N' js tb te) := by
  refine ⟨fun pins s σ H Q I h => ?_⟩
  refine wpAny_Call_Name_kw (ld_blt I hg hm PyProof.Rows.Boot.min ?_ (plain_n (by decide)) (plain_d (by decide)))
  refine args_lam (hk := keeps_blt) la hst he hdef w.free I h fun x u H1 f c' pm ctv H2 s2 ru ⟨a, xs, d, R, ex, src, exr, al, nd, hx0, q⟩ x2 t2 I2 hc => ?_
  subst ex
  obtain rfl : u = Value.ref a := ru
  obtain ⟨q1, q2⟩ := q H2 x2 t2
  refine wpAny_mono (call_minJ (X := pnX X [(f, PySem.W.kla_obj "<lambda>" qual params be scope (cloFrom X.env.cells scope.names []) pm c' ctv)]) (tp := false) (d := d) (Q := Q) exr hr.hd (show SrcOk false X.K H2 a xs from sqL_exn x2 src) al (fun x hx => (nd x hx).1) (fun x hx => by have := (nd x hx).2; show X.A.units + 1 + _ < _; omega)
    (fun pins' H' s x u E hx ru hR I' => la_key w b rfl hr.in1 gd I' (exr.ex hR _ _ hc LamX.codeO_ne) ru (q1 x hx H' hR)) hx0 I2 q2) (fun v s3 ⟨y, H3, I3, r3, q3⟩ => ⟨y, H3, inv_unpn I.ok I3, r3, q3⟩) fun _ _ z => z
end
end WR

set_option Elab.async false
set_option linter.all false
set_option maxRecDepth 100000
set_option maxHeartbeats 4000000
namespace WR
open PySem PySem.Spec PyProof.Rows L2
open PySem.W (alike AllAlike Sortable dataLe EachIs KeyedOut KeepsBut dataKind SortsAt)

/-! ## sorted(.., key=..): the keys' calls may do anything but write what is tracked -/
section
variable {X : Cx} {pins : List (Addr × Obj)} {σ : St} {H0 H : Hp} {A : Around} {s : Shared} {a kS q : Addr} {xs : List V} {vs : List Value} {d : V → PyData} {R : Hp → Hp → Prop} {P : PySem.Fin → Shared → Prop} {E : Value → Shared → Prop} {e1 : Nat}
/-- the heap without one object -/
def without (h : Heap) (a : Addr) : Heap := h.update a fun o => ⟨o.cls, o.dict, .freed, o.slots⟩
theorem without_self (h : Heap) (a : Addr) : (without h a).get? a = none := by
  unfold without Heap.update Heap.get?
  cases h with
  | mk objs l =>
    show (match (objs.modify a _)[a]? with | some ⟨_, _, .freed, _⟩ => none | o => o) = none
    rw [Array.getElem?_modify]
    cases objs[a]? with
    | none => simp
    | some o => simp
theorem without_other {h : Heap} {a b : Addr} (n : b ≠ a) : (without h a).get? b = h.get? b := Heap.get?_update_other _ _ (fun z => n z.symm)
theorem vals_each : ∀ {xs : List V} {vs : List Value}, Vals xs vs → EachIs (fun v x => RelV x v) vs xs
  | _, _, .nil => .nil
  | _, _, .cons h t => .cons h (vals_each t)
theorem each_vals2 : ∀ {vs : List Value} {xs : List V}, EachIs (fun v x => RelV x v) vs xs → Vals xs vs
  | _, _, .nil => .nil
  | _, _, .cons h t => .cons h (each_vals2 t)
theorem turn1 {o : Obj} (I : Inv X pins σ H s) (f : FpOk X pins H kS) (g : Obj → Obj) : Inv X pins σ H { s with heap := s.heap.update kS g, toks := s.toks } := by
  obtain ⟨f0, f1, f2, f3, f4, f5⟩ := f
  exact I.turned (t' := s.toks) (fun b o hb e => (Heap.get?_update_other _ _ (fun z => hb z.symm)).trans e) f0 f1 f3 f4 f5
theorem each_dp {H' : Hp} (x : ExN H H') {ks : List Value} {ds : List PyData} (h : EachIs (fun v k => ∃ y, RelV y v ∧ Dp X.K H y k) ks ds) : EachIs (fun v k => ∃ y, RelV y v ∧ Dp X.K H' y k) ks ds :=
  h.mono fun _ _ ⟨y, r, p⟩ => ⟨y, r, dp_exn x p⟩
theorem each_push {α β : Type} {F : α → β → Prop} {a : α} {b : β} : ∀ {as : List α} {bs : List β}, EachIs F as bs → F a b → EachIs F (as ++ [a]) (bs ++ [b])
  | _, _, .nil, h => .cons h .nil
  | _, _, .cons h t, k => .cons h (each_push t k)
theorem sort_rest (exr : ExR R) (rv : Vals xs vs) (hal : AllAlike (xs.map d)) (hsk : Sortable (xs.map d)) (hu : ∀ x ∈ xs, A.units + (d x).depth < cLine) (hz : xs.length ≤ sizeLine)
    (hcall : ∀ (pins' : List (Addr × Obj)) (H' : Hp) (s : Shared) (x : V) (u : Value) (E : Value → Shared → Prop), x ∈ xs → RelV x u → R H0 H' → Inv X pins' σ H' s → wpAny (model X.prog X.w) A (call (.ref q) [u]) (EP X pins' σ fun y H2 => R H' H2 ∧ Dp X.K H2 y (d x)) E s)
    (hka : kS ≠ a) (I : Inv X pins σ H0 s) (fk : FpOk X pins H0 kS) (fa : FpOk X pins H0 a) (nk : s.heap.get? kS = some (seqObj "list" #[] 0)) (na : s.heap.get? a = some (seqObj "list" #[] e1))
    (h : ∀ s' H' out c, Inv X pins σ H' s' → R H0 H' → FpOk X pins H' a → s'.heap.get? a = some (seqObj "list" (List.toArray out) c) → Vals (xs.mergeSort (dataLe false d)) out → P (.done (.ret .none)) s') :
    wpAny (model X.prog X.w) A (ksk_rest a (.ref q) false vs.toArray e1 (.ref kS)) P E s := by
  unfold ksk_rest
  refine wpAny_bind (wpAny_rule ?_)
  rw [List.forIn_toArray]
  have lv := rv.length
  refine wpAny_bind (ksk_fold (fun i s' => ∃ H' kA e, Inv X pins σ H' s' ∧ R H0 H' ∧ FpOk X pins H' kS ∧ FpOk X pins H' a ∧ s'.heap.get? kS = some (seqObj "list" kA e) ∧ s'.heap.get? a = some (seqObj "list" #[] e1) ∧ EachIs (fun v k => ∃ y, RelV y v ∧ Dp X.K H' y k) kA.toList ((xs.map d).take i)) vs 0 s
    ⟨H0, #[], 0, I, exr.refl _, fk, fa, nk, na, by rw [List.take_zero]; exact .nil⟩ ?_ ?_)
  · rintro j u s1 hu1 ⟨H1, kA, e, I1, r1, fk1, fa1, nk1, na1, hk⟩
    simp only [Nat.zero_add] at hk ⊢
    obtain ⟨x, hx, rx⟩ : ∃ x, xs[j]? = some x ∧ RelV x u := by
      have hj : j < xs.length := by rw [lv]; exact (List.getElem?_eq_some_iff.mp hu1).1
      obtain ⟨u', hu', ru'⟩ := rv.get (List.getElem?_eq_getElem hj)
      rw [hu1] at hu'
      cases hu'
      exact ⟨_, List.getElem?_eq_getElem hj, ru'⟩
    have Ip := I1.pinned (fp := [kS, a]) (fun b hb => by
      simp only [List.mem_cons, List.not_mem_nil, or_false] at hb
      rcases hb with rfl | rfl
      · exact fk1
      · exact fa1) (fun b hb => by
      simp only [List.mem_cons, List.not_mem_nil, or_false] at hb
      rcases hb with rfl | rfl
      · exact ⟨_, nk1, fun v z => nomatch z⟩
      · exact ⟨_, na1, fun v z => nomatch z⟩)
    refine wpAny_bind (wpAny_attempt (wpAny_mono (hcall _ H1 s1 x u (fun _ _ => False) (List.mem_of_getElem? hx) rx r1 Ip) (fun kv s2 ⟨y, H2, I2, ry, r2, dy⟩ => ?_) fun _ _ z => z.elim))
    have pk := I2.pin (kS, _) (List.mem_append_right _ (List.mem_append_right _ (mem_pinsAt (List.mem_cons_self) nk1)))
    have pa := I2.pin (a, _) (List.mem_append_right _ (List.mem_append_right _ (mem_pinsAt (List.mem_cons_of_mem _ List.mem_cons_self) na1)))
    have nk2 : s2.heap.get? kS = some (seqObj "list" kA e) := pk.1
    have na2 : s2.heap.get? a = some (seqObj "list" #[] e1) := pa.1
    have fk2 : FpOk X pins H2 kS := ⟨pk.2.1, fk1.2⟩
    have fa2 : FpOk X pins H2 a := ⟨pa.2.1, fa1.2⟩
    have I3 := I2.unpinned
    have hl := hk.length
    rw [Array.length_toList, List.length_take, List.length_map] at hl
    have hle : kA.size ≤ sizeLine := by omega
    dsimp only
    refine wpAny_bind (listUpdate_at nk2 rfl ?_ hle (by rw [Array.size_push]; omega))
    obtain ⟨c2, hc2⟩ : ∃ c2, (s2.heap.update kS (Obj.mapSeq (·.push kv))).get? kS = some (seqObj "list" (kA.push kv) c2) := ⟨_, get?_update_seq nk2 (·.push kv)⟩
    refine wpAny_pure ⟨rfl, H2, kA.push kv, c2, turn1 (o := { cls := .none }) I3 fk2 _, exr.trans r1 r2, fk2, fa2, hc2, (Heap.get?_update_other _ _ hka).trans na2, ?_⟩
    rw [List.take_add_one, List.getElem?_map, hx, Array.toList_push]
    exact each_push (each_dp (exr.ex r2) hk) ⟨y, ry, dy⟩
  · rintro s1 ⟨H1, kA, e, I1, r1, fk1, fa1, nk1, na1, hk⟩
    have hk2 : EachIs (fun v k => ∃ y, RelV y v ∧ Dp X.K H1 y k) kA.toList (xs.map d) := by
      rw [List.take_of_length_le (by rw [List.length_map]; omega)] at hk
      exact hk
    have hl := hk2.length
    rw [Array.length_toList, List.length_map] at hl
    refine wpAny_bind (listItems_at nk1 rfl ?_)
    have rd : EachIs (fun v k => ∃ as, Reads s1.heap v k as) kA.toList (xs.map d) := hk2.mono fun v k ⟨y, ry, dy⟩ => Dp.reads I1 _ y v dy ry
    refine PySem.W.keyH_end (κ := dataKind s1.heap (xs.map d)) (h₁ := without s1.heap kS) (fun b o hb z => ?_) (without_self _ _) nk1 na1 hka (SortsAt.data rd hal hsk fun k hk => ?_) (hl.trans lv) (by rw [← lv]; exact hz) fun h3 tk c kp hc3 => ?_
    · by_cases n : b = kS
      · subst n; rw [without_self] at z; cases z
      · rw [without_other n] at z; exact z
    · obtain ⟨x, hx, rfl⟩ := List.mem_map.mp hk
      exact hu x hx
    · have I2 : Inv X pins σ H1 { s1 with heap := h3, toks := tk } := by
        refine I1.turnedL (ch := [kS, a]) (fun b o hb z => ?_) fun b hb => ?_
        · simp only [List.mem_cons, List.not_mem_nil, or_false, not_or] at hb
          exact kp b o hb.2 (by rw [without_other hb.1]; exact z)
        · simp only [List.mem_cons, List.not_mem_nil, or_false] at hb
          rcases hb with rfl | rfl
          · exact fk1
          · exact fa1
      have ko : KeyedOut false (xs.map d) vs (PySem.W.sortVals (dataKind s1.heap (xs.map d)) false kA.toList vs) := ⟨s1.heap, kA.toList, hal, rfl, rd⟩
      exact h _ H1 _ c I2 r1 fa1 hc3 (each_vals2 (PySem.W.keyedOut_each d ko (vals_each rv)))
end
end WR

set_option Elab.async false
set_option linter.all false
set_option maxRecDepth 100000
set_option maxHeartbeats 4000000
namespace WR
open PySem PySem.Spec PyProof.Rows L2
open PySem.W (alike AllAlike Sortable dataLe EachIs KeyedOut KeepsBut dataKind SortsAt)
section
variable {X : Cx} {pins : List (Addr × Obj)} {σ : St} {H0 H : Hp} {A : Around} {s : Shared} {a q : Addr} {xs : List V} {vs : List Value} {d : V → PyData} {R : Hp → Hp → Prop} {P : PySem.Fin → Shared → Prop} {E : Value → Shared → Prop}
/-- an object of ours is told from now on -/
theorem inv_track {ob : HO} {o : Obj} (I : Inv X pins σ H s) (f : FpOk X pins H a) (ha : s.heap.get? a = some o) (new : ObjOk X.prog X.w (upd H a ob) s.heap a ob) : Inv X pins σ (upd H a ob) s := by
  have hn : H a = none := f.1
  refine I.step (h' := s.heap) (t' := s.toks) (g' := s.gens) (d' := s.drawn) (ch := [a]) (fun b hb => ?_) (fun b o _ _ hc e _ => e) (fun b o _ _ hc e _ => ⟨o.slots, e⟩)
    (fun b o hb e n => ?_) (fun b o hc e => ⟨o, e⟩) (fun b xs e => ?_) (fun b o u e => ?_) (fun b ps e => ⟨#[], ?_⟩) (fun m hm => hm) (fun b u e => ?_) I.bare
  · rw [List.mem_singleton] at hb
    subst hb
    exact ⟨f.2.2.2.1, f.2.1, f.2.2.2.2.1, f.2.2.2.2.2⟩
  · rw [upd_ne (fun z => hb (by rw [z]; exact List.mem_singleton_self _))]; exact n
  · rw [upd_ne (ne_of_none e hn)]; exact e
  · rw [upd_ne (ne_of_none e hn)]; exact e
  · rw [upd_ne (ne_of_none e hn), e]; simp
  · by_cases hb : b = a
    · subst hb
      rw [upd_same] at e
      cases e
      exact new
    · rw [upd_ne hb] at e
      exact (I.hok b u e).stay (fun c v hc q => q) (fun c q => by rw [upd_ne (ne_of_none q hn)]; exact q) fun c xs q => by rw [upd_ne (ne_of_none q hn)]; exact q
theorem inv_trackL {ys : List V} {out : List Value} {c : Nat} (I : Inv X pins σ H s) (f : FpOk X pins H a) (ha : s.heap.get? a = some (seqObj "list" out.toArray c)) (hz : ys.length ≤ sizeLine) (r : Vals ys out) : Inv X pins σ (upd H a (.lst ys)) s :=
  inv_track I f ha (show ObjOk X.prog X.w _ _ _ (.lst ys) from ⟨hz, out, c, r, ha⟩)
/-- list.sort(key=f) on a list of ours -/
theorem sort_tree {n : Nat} (exr : ExR R) (rv : Vals xs vs) (hal : AllAlike (xs.map d)) (hsk : Sortable (xs.map d)) (hu : ∀ x ∈ xs, A.units + (d x).depth < cLine) (hz : xs.length ≤ sizeLine)
    (hcall : ∀ (pins' : List (Addr × Obj)) (H' : Hp) (s : Shared) (x : V) (u : Value) (E : Value → Shared → Prop), x ∈ xs → RelV x u → R H0 H' → Inv X pins' σ H' s → wpAny (model X.prog X.w) A (call (.ref q) [u]) (EP X pins' σ fun y H2 => R H' H2 ∧ Dp X.K H2 y (d x)) E s)
    (I : Inv X pins σ H0 s) (fa : FpOk X pins H0 a) (ho : s.heap.get? a = some (seqObj "list" vs.toArray n))
    (h : ∀ s' H' out c, Inv X pins σ H' s' → R H0 H' → FpOk X pins H' a → s'.heap.get? a = some (seqObj "list" (List.toArray out) c) → Vals (xs.mergeSort (dataLe false d)) out → P (.done (.ret .none)) s') :
    wpAny (model X.prog X.w) A (ksk_tree a (.ref q) false) P E s := by
  have ha : a < s.heap.objs.size := Heap.lt_size ho
  have hzv : vs.length ≤ sizeLine := by rw [← rv.length]; exact hz
  obtain ⟨e1, ho1⟩ : ∃ e1, (s.heap.update a (Obj.mapSeq fun _ => (#[] : Array Value))).get? a = some (seqObj "list" #[] e1) := ⟨_, get?_update_seq ho fun _ => #[]⟩
  have hkS : ((s.heap.update a (Obj.mapSeq fun _ => (#[] : Array Value))).push (seqObj "tuple" vs.toArray 0)).objs.size = s.heap.objs.size + 1 := by rw [size_push', Heap.size_update]
  unfold ksk_tree
  refine wpAny_bind (listItems_at ho rfl ?_)
  refine wpAny_bind (listUpdate_at ho rfl ?_ (by rw [List.size_toArray]; exact hzv) (Nat.zero_le _))
  refine wpAny_bind (seqEpoch_at ho1 rfl ?_)
  refine wpAny_bind (wpAny_newTuple ?_ (by show vs.length ≤ _; exact hzv))
  refine wpAny_bind (wpAny_newList ?_ (Nat.zero_le _))
  refine wpAny_holding ?_
  refine sort_rest (s := { s with heap := ((s.heap.update a (Obj.mapSeq fun _ => (#[] : Array Value))).push (seqObj "tuple" vs.toArray 0)).push (seqObj "list" #[] 0) }) (kS := ((s.heap.update a (Obj.mapSeq fun _ => (#[] : Array Value))).push (seqObj "tuple" vs.toArray 0)).objs.size)
    exr rv hal hsk hu hz hcall (by rw [hkS]; exact Nat.ne_of_gt (Nat.lt_succ_of_lt ha)) ?_ ?_ fa (Heap.get?_push_size _ rfl) (Heap.get?_push_of_some _ (Heap.get?_push_of_some _ ho1)) h
  · refine I.turnedL (t' := s.toks) (ch := [a]) (fun b o hb e => ?_) fun b hb => by rw [List.mem_singleton] at hb; subst hb; exact fa
    have hba : b ≠ a := fun z => hb (by rw [z]; exact List.mem_singleton_self _)
    exact Heap.get?_push_of_some _ (Heap.get?_push_of_some _ ((Heap.get?_update_other _ _ (fun z => hba z.symm)).trans e))
  · rw [hkS]
    exact I.fpOk (Nat.le_succ _) (I.hok.fresh (Nat.le_succ _))
/-- what is sorted: a list, or a dict's keys -/
def SrtSrc (K : PySem.W.Frag) (H : Hp) (x : V) (xs : List V) : Prop := (∃ a, x = .ref a ∧ SqL K H a xs) ∨ ∃ a kvs, x = .ref a ∧ Rd H a (.dK kvs) ∧ xs = kvs.map fun kv => kV kv.1
theorem srt_exn {K : PySem.W.Frag} {H H' : Hp} {x : V} (e : ExN H H') (h : SrtSrc K H x xs) : SrtSrc K H' x xs := by
  rcases h with ⟨a, rfl, h⟩ | ⟨a, kvs, rfl, h, rfl⟩
  · exact .inl ⟨a, rfl, sqL_exn e h⟩
  · exact .inr ⟨a, kvs, rfl, rd_exn e (fun ps z => nomatch z) h, rfl⟩
theorem sort_back {l : Addr} {out : List Value} {c : Nat} {H' : Hp} {Q : VK} {s' : Shared} (I : Inv X pins σ H' s') (f : FpOk X pins H' l) (hl : s'.heap.get? l = some (seqObj "list" (List.toArray out) c)) (rv : Vals (xs.mergeSort (dataLe false d)) out) (hz : xs.length ≤ sizeLine)
    (q : ∀ l, H' l = none → Q (.ref l) (upd H' l (.lst (xs.mergeSort (dataLe false d))))) : EP X pins σ Q (.ref l) s' :=
  ⟨.ref l, _, inv_trackL I f hl (by rw [List.length_mergeSort]; exact hz) rv, rfl, q l f.1⟩
/-- sorted(x, key=f) -/
theorem call_sortJ {x : V} {u : Value} {Q : VK} (exr : ExR R) (hcalm : A.handled = none) (ru : RelV x u) (src : SrtSrc X.K H0 x xs) (hal : AllAlike (xs.map d)) (hsk : Sortable (xs.map d)) (hu : ∀ x ∈ xs, A.units + 2 + (d x).depth < cLine)
    (hcall : ∀ (pins' : List (Addr × Obj)) (H' : Hp) (s : Shared) (x : V) (u : Value) (E : Value → Shared → Prop), x ∈ xs → RelV x u → R H0 H' → Inv X pins' σ H' s → wpAny (model X.prog X.w) A.in1.in1 (call (.ref q) [u]) (EP X pins' σ fun y H2 => R H' H2 ∧ Dp X.K H2 y (d x)) E s)
    (I : Inv X pins σ H0 s) (hq : ∀ H', R H0 H' → ∀ l, H' l = none → Q (.ref l) (upd H' l (.lst (xs.mergeSort (dataLe false d))))) :
    wpAny (model X.prog X.w) A (call (.builtin "sorted") [u] [(("key" : Str), .ref q)]) (EP X pins σ Q) E s := by
  rcases src with ⟨a, rfl, src⟩ | ⟨a, kvs, rfl, hd, rfl⟩
  · obtain rfl : u = .ref a := ru
    obtain ⟨its, rv, p, hz⟩ := I.list src
    have hzv : its.length ≤ sizeLine := by rw [← rv.length]; exact hz
    refine PySem.W.sorted_of_sort (show s.heap.IsList a its.toArray from p.isList) hzv (ksk_s1 _ _) (fun _ => ksk_l1 _ _) fun E' => ?_
    rw [ksk_t1]
    have I1 : Inv X pins σ H0 { s with heap := PySem.W.copyHeap s.heap its } := I.kept (t' := s.toks) fun b o e => PySem.W.copyHeap_old e
    exact sort_tree exr rv hal hsk (fun x hx => hu x hx) hz hcall I1 (I.fpOk (Nat.le_succ _) (I.hok.fresh (Nat.le_succ _))) (PySem.W.copyHeap_at s.heap its) fun s' H' out c I2 r f hl rv2 => ⟨rfl, sort_back I2 f hl rv2 hz (hq H' r)⟩
  · obtain rfl : u = .ref a := ru
    obtain ⟨z, lo, vs, rel, dd⟩ := dk_rd I.hok hd
    obtain ⟨ep, hat⟩ := dd.dictAt
    have h16 : vs.length ≤ sizeLine := by rw [← rel.length]; exact z
    have ek : (kvs.map fun kv => kV kv.1) = vs.map fun p => kV p.1 := by
      have e := congrArg (List.map kV) rel.keys
      rw [List.map_map, List.map_map] at e
      exact e
    refine call_function_entry_kw kind_sorted plain_sorted entry_sorted (ksk_s1 _ _) ?_
    unfold Builtin.«sorted»
    refine wpAny_bind (m := checkCount "sorted" 1 1 _) (wpAny_pure ?_)
    refine wpAny_bind (PySem.W.kdu_collect (A := A.in1) (PySem.W.kdl_dict (knd := mixKind X.prog X.w) (kvs := vs) (ep := ep) lo) hcalm hat h16 fun h' tk acc hk hacc => ?_)
    have hv : Vals (kvs.map fun kv => kV kv.1) acc.toList := by rw [ek]; exact keys_at (by rw [Array.length_toList]; exact hacc.1) fun j v e => hacc.2 j v (by rw [← Array.getElem?_toList]; exact e)
    have hzl : acc.toList.length ≤ sizeLine := by rw [← hv.length, List.length_map]; exact z
    have I1 : Inv X pins σ H0 { s with heap := h', toks := tk } := I.kept hk
    refine wpAny_bind (wpAny_newList ?_ hzl)
    have hoL : (h'.push (seqObj "list" acc.toList.toArray 0)).get? h'.objs.size = some (seqObj "list" acc.toList.toArray 0) := Heap.get?_push_size _ rfl
    show wpAny _ _ _ _ _ { s with heap := h'.push (seqObj "list" acc.toList.toArray 0), toks := tk }
    refine wpAny_bind (wpAny_holding (wpAny_call_entry_kw slot_list_sort ⟨_, hoL, rfl⟩ entry_list_sort ?body (ksk_l1 _ _)))
    case body =>
      show wpAny (model X.prog X.w) A.in1.in1 (Builtin.«list.sort» ⟨[.ref h'.objs.size], [(Str.ofString "key", .ref q)]⟩) _ _ _
      rw [ksk_t1]
      refine sort_tree (s := { s with heap := h'.push (seqObj "list" acc.toList.toArray 0), toks := tk }) exr hv hal hsk (fun x hx => hu x hx) (by rw [List.length_map]; exact z) hcall (I1.kept (t' := tk) fun b o e => Heap.get?_push_of_some _ e) (I1.fpOk (Nat.le_refl _) (I1.hok.fresh (Nat.le_refl _))) hoL fun s' H' out c I2 r f hl rv2 => ?_
      exact ⟨_, rfl, wpAny_pure ⟨_, rfl, sort_back I2 f hl rv2 (by rw [List.length_map]; exact z) (hq H' r)⟩⟩
end
end WR

set_option Elab.async false
set_option linter.all false
set_option maxRecDepth 100000
set_option maxHeartbeats 4000000
namespace WR
open PySem PySem.Spec PyProof.Rows L2
open PySem.W (alike AllAlike Sortable dataLe)
section
variable {X : Cx} {pins : List (Addr × Obj)} {σ : St} {H : Hp} {s : Shared}
/-- sorted(e, key=lambda ..) -/
def cSortL (K : PySem.W.Frag) (T : List (Addr × Str)) (N' : List Str) (js : List Nat) (tb te : TE) : TE := fun σ H Q => te σ H fun x H1 => LamX.Tabs T H1 ∧ ∃ (xs : List V) (d : V → PyData) (R : Hp → Hp → Prop), SrtSrc K H1 x xs ∧ ExR R ∧
  AllAlike (xs.map d) ∧ Sortable (xs.map d) ∧ (∀ x ∈ xs, (d x).depth ≤ 60) ∧ ∀ H2, LamX.ExtN H1 H2 → LamX.Tabs T H2 →
  (∀ x ∈ xs, ∀ H', R H2 H' → tb (NdefX.startF N' [x] (js.map (NdefX.slotAt σ))) H' (fun y H3 => R H' H3 ∧ Dp K H3 y (d x))) ∧ ∀ H', R H2 H' → ∀ l, H' l = none → Q (.ref l) (upd H' l (.lst (xs.mergeSort (dataLe false d))))
theorem pe_sortL {T : List (Addr × Str)} {c P : Addr} {k : Nat} {N' fr : List Str} {px qual : Str} {js : List Nat} {params : Arguments} {be e : Expr} {scope : Scope} {lpos kpos p pos : Pos} {tb te : TE}
    (la : LaOk X T c P qual) (w : LaW X N' px fr js params be scope qual) (b : LaB X k N' params be scope qual tb) (hdef : defaultsOf params X.env = ([], [])) (hst : notStar e = true) (he : PE X e te)
    (hr : Room (k + 3) X.A) (gd : X.A.guards = some []) (hun : X.A.units + 100 < cLine) (hg : Gl X "sorted") (hm : X.mg "sorted" = none) :
    PE X (.Call (.Name "sorted" p) [e] [⟨some "key", .Lambda params be scope lpos, kpos⟩] pos) (cSortL X.K T N' js tb te) := by
  refine ⟨fun pins s σ H Q I h => ?_⟩
  refine wpAny_Call_Name_kw (ld_blt I hg hm PyProof.Rows.Boot.sorted ?_ (plain_n (by decide)) (plain_d (by decide)))
  refine args_lam (hk := keeps_blt) la hst he hdef w.free I h fun x u H1 f c' pm ctv H2 s2 ru ⟨xs, d, R, src, exr, al, sk, nd, q⟩ x2 t2 I2 hc => ?_
  obtain ⟨q1, q2⟩ := q H2 x2 t2
  refine wpAny_mono (call_sortJ (X := pnX X [(f, PySem.W.kla_obj "<lambda>" qual params be scope (cloFrom X.env.cells scope.names []) pm c' ctv)]) (d := d) (Q := Q) exr hr.hd ru (show SrtSrc X.K H2 x xs from srt_exn x2 src) al sk (fun x hx => by have := nd x hx; show X.A.units + 2 + _ < _; omega)
    (fun pins' H' s x u E hx ru hR I' => la_key w b rfl hr.in1.in1 gd I' (exr.ex hR _ _ hc LamX.codeO_ne) ru (q1 x hx H' hR)) I2 q2) (fun v s3 ⟨y, H3, I3, r3, q3⟩ => ⟨y, H3, inv_unpn I.ok I3, r3, q3⟩) fun _ _ z => z
end
/-! ## the words of a lambda -/
/-- one parameter, no more -/
def lamPar : Arguments → Option Str
  | ⟨[], [⟨x, none, _⟩], none, [], [], none, []⟩ => some x
  | _ => none
theorem lamPar_ok {a : Arguments} {x : Str} (h : lamPar a = some x) : ∃ p, a = ⟨[], [⟨x, none, p⟩], none, [], [], none, []⟩ := by
  unfold lamPar at h
  split at h
  · cases h; exact ⟨_, rfl⟩
  · cases h
def frNames (sc : Scope) : List Str := sc.names.filterMap fun y => if y.2 = .free then some y.1 else none
theorem frNames_mem {sc : Scope} {x : Str} : x ∈ frNames sc → (x, NameKind.free) ∈ sc.names := fun h => by
  obtain ⟨y, hy, e⟩ := List.mem_filterMap.mp h
  split at e
  · rename_i e2
    cases e
    rw [← e2]; exact hy
  · cases e
def lamJs (N : List Str) (scope : Scope) : List Nat := (frNames scope).filterMap (ix? N)
theorem lamJs_ok {N : List Str} : ∀ {l : List Str}, (l.all fun x => (ix? N x).isSome) = true → (l.filterMap (ix? N)).map (fun j => N[j]?) = l.map some
  | [], _ => rfl
  | x :: l, h => by
    rw [List.all_cons, Bool.and_eq_true] at h
    obtain ⟨i, hi⟩ := Option.isSome_iff_exists.mp h.1
    rw [List.filterMap_cons_some hi, List.map_cons, List.map_cons, lamJs_ok h.2, ix_get hi]
def lamC (N : List Str) (sc : Scope) (px : Str) (scope : Scope) : Bool := NdefX.nscB (px :: frNames scope) [px] (frNames scope) scope && ((scope.names.all fun y => !decide (y.2 = .free) || (decide (sc.names.lookup y.1 = some .cell) || decide (sc.names.lookup y.1 = some .free))) && (frNames scope).all fun x => (ix? N x).isSome)
/-- min/sorted(e, key=lambda x: ..) -/
def tLam (g : G) (f : List Str → Scope → Expr → Option (WX → TE)) (N : List Str) (sc : Scope) (x : Str) (es : List Expr) (kws : List Keyword) : Option (WX → TE) := match g.lam, es, kws with
  | some (N0, L), [e], [⟨some k, .Lambda params be scope _, _⟩] => (match lamPar params with
    | some px => if (px = "name" ∨ px = "row" ∨ px = "one") ∧ k = "key" ∧ (x = "min" ∨ x = "sorted") ∧ sc.names.lookup x = some .globalImplicit ∧ x ∈ g.blt ∧ notStar e = true ∧ N0 = N ∧ N0 ≠ px :: frNames scope ∧ lamC N sc px scope = true then
        (match f N sc e, f (px :: frNames scope) scope be with
        | some te, some tb => some fun W => if x = "min" then cMinL g.K g.Ts (px :: frNames scope) (lamJs N scope) (tb fun _ _ _ _ => False) (te W) else cSortL g.K g.Ts (px :: frNames scope) (lamJs N scope) (tb fun _ _ _ _ => False) (te W)
        | _, _ => none)
      else none
    | none => none)
  | _, _, _ => none
section
variable {g : G} {lev : Nat} {X : Cx} {N : List Str} {sc : Scope} {W : WX}
theorem tLam_ok {f : List Str → Scope → Expr → Option (WX → TE)} (c : COk g lev X N sc W) (h : ∀ e t, f N sc e = some t → PE X e (t W)) (hb : ∀ {X' : Cx} {N' : List Str} {sc' : Scope} {W' : WX}, COk g lev X' N' sc' W' → ∀ e t, f N' sc' e = some t → PE X' e (t W'))
    {x : Str} {es : List Expr} {kws : List Keyword} {p pos : Pos} {t : WX → TE} (q : tLam g f N sc x es kws = some t) : PE X (.Call (.Name x p) es kws pos) (t W) := by
  unfold tLam at q
  split at q
  · rename_i N0 L e k params be scope lpos kpos hl
    split at q
    · rename_i px hp
      split at q
      · rename_i hc
        obtain ⟨hpx, rfl, hx, hg, hbl, hst, rfl, hne, hC⟩ := hc
        obtain ⟨pp, rfl⟩ := lamPar_ok hp
        split at q
        · rename_i te tb e1 e2
          cases q
          obtain ⟨la, hr⟩ := c.lam _ hl rfl
          unfold lamC at hC
          simp only [Bool.and_eq_true] at hC
          obtain ⟨c1, c2, c3⟩ := hC
          have w : LaW X (px :: frNames scope) px (frNames scope) (lamJs N0 scope) ⟨[], [⟨px, none, pp⟩], none, [], [], none, []⟩ be scope L.q := {
            S := NdefX.nscope_by c1
            bnd := fun cl pm ctv u c' => by rcases hpx with rfl | rfl | rfl <;> rfl
            free := fun y hy e => by
              have z := List.all_eq_true.mp c2 y hy
              rw [e] at z
              rw [c.hsc]
              simpa using z
            frm := fun y hy => frNames_mem hy
            ixs := by rw [c.hN]; exact lamJs_ok c3 }
          have b : LaB X (lev + 2) (px :: frNames scope) ⟨[], [⟨px, none, pp⟩], none, [], [], none, []⟩ be scope L.q (tb fun _ _ _ _ => False) := fun f c' A' s H hr' gd' => by
            refine hb (X' := _) (N' := px :: frNames scope) (sc' := scope) (W' := fun _ _ _ _ => False) ?_ _ _ e2
            exact { gok := c.gok, hK := c.hK, hN := rfl, hsc := rfl, nd := (NdefX.nscope_by c1).nd, calm := rfl, tk := takes0, room := hr'.mono (Nat.le_succ _), gd := gd', room2 := hr'.mono (Nat.le_add_left 2 lev), lam := fun p h e => absurd (by rw [hl] at h; cases h; exact e) hne }
          have hG : Gl X x := by unfold Gl Env.kindOf; rw [c.hsc]; exact hg
          have hun := c.room.un
          try dsimp only
          rw [← c.hK]
          rcases hx with rfl | rfl
          · rw [if_pos rfl]
            exact pe_minL la w b rfl hst (h _ _ e1) (hr.mono (by omega)) c.gd (by omega) hG (c.gok.blt _ hbl)
          · rw [if_neg (by decide)]
            exact pe_sortL la w b rfl hst (h _ _ e1) hr c.gd (by omega) hG (c.gok.blt _ hbl)
        · cases q
      · cases q
    · cases q
  · cases q
end
end WR

set_option Elab.async false
set_option linter.all false
set_option maxRecDepth 100000
set_option maxHeartbeats 4000000
namespace WR
open PySem PySem.Spec PyProof.Rows L2
open PySem.W (alike AllAlike Sortable dataLe)
/-- sorted(e, key=f), f an own def -/
def cSortF (K : PySem.W.Frag) (sp : Sp) (arr : List V → List V → List V) (te : TE) : TE := fun σ H Q => te σ H fun x H1 => ∃ (xs : List V) (d : V → PyData) (R : Hp → Hp → Prop), SrtSrc K H1 x xs ∧ ExR R ∧
  AllAlike (xs.map d) ∧ Sortable (xs.map d) ∧ (∀ x ∈ xs, (d x).depth ≤ 60) ∧
  (∀ x ∈ xs, ∀ H', R H1 H' → sp (arr [x] []) H' (fun y H2 => R H' H2 ∧ Dp K H2 y (d x)) (fun _ _ _ => False)) ∧ ∀ H', R H1 H' → ∀ l, H' l = none → Q (.ref l) (upd H' l (.lst (xs.mergeSort (dataLe false d))))
theorem pe_sortF {g : G} {lev : Nat} {X : Cx} {N : List Str} {sc : Scope} {W : WX} (c : COk g lev X N sc W) {i : FnI} (hi : i ∈ g.fns) (hn : i.n = 1) (hks : i.ks = []) (hg : Gl X "sorted") (hm : X.mg "sorted" = none)
    (hk1 : Gl X i.name) (hk2 : plainName i.name = true) {p kp kpos pos : Pos} {e : Expr} {te : TE} (hst : notStar e = true) (he : PE X e te) :
    PE X (.Call (.Name "sorted" p) [e] [⟨some "key", .Name i.name kp, kpos⟩] pos) (cSortF g.K i.sp i.arr te) := by
  obtain ⟨fa, fd, ps, gf, m1, m2, F, kb⟩ := c.gok.fns i hi
  rw [← c.hK] at m2 F kb
  rw [hn, hks] at kb
  rw [← c.hK]
  have hun := c.room.un
  refine ⟨fun pins s σ H Q I h => ?_⟩
  refine wpAny_Call_Name_kw (ld_blt I hg hm PyProof.Rows.Boot.sorted ?_ (plain_n (by decide)) (plain_d (by decide)))
  refine args_of (first := []) (t := tCons te tNil) (tk := tCons (tC (.ref fa)) tNil) (R := fun vs zs H2 => zs = [.ref fa] ∧ ∃ (x : V) (xs : List V) (d : V → PyData) (R : Hp → Hp → Prop),
    vs = [x] ∧ SrtSrc X.K H2 x xs ∧ ExR R ∧ AllAlike (xs.map d) ∧ Sortable (xs.map d) ∧ (∀ x ∈ xs, (d x).depth ≤ 60) ∧
    (∀ x ∈ xs, ∀ H', R H2 H' → i.sp (i.arr [x] []) H' (fun y H3 => R H' H3 ∧ Dp X.K H3 y (d x)) (fun _ _ _ => False)) ∧ ∀ H', R H2 H' → ∀ l, H' l = none → Q (.ref l) (upd H' l (.lst (xs.mergeSort (dataLe false d))))) keeps_blt (fun z => nomatch z) (by rw [List.all_cons, hst]; rfl) rfl (pa_cons he pa_nil (by cases e <;> first | rfl | exact absurd hst Bool.false_ne_true)) (pk_cons (pe_glob hk1 m1 rfl (plain_d hk2)) pk_nil) I ?_ fun vs zs us ws s2 H2 I2 r rz q => ?_
  · refine Eq.mp (congrArg (te σ H) (funext fun x => funext fun H1 => propext ⟨fun q => ?_, fun q => ?_⟩)) h
    · obtain ⟨xs, d, R, q⟩ := q
      exact ⟨rfl, x, xs, d, R, rfl, q⟩
    · obtain ⟨_, x', xs, d, R, e1, q⟩ := q
      cases e1
      exact ⟨xs, d, R, q⟩
  · obtain ⟨rfl, x, xs, d, R, rfl, src, exr, al, sk, nd, hc, hQ⟩ := q
    obtain ⟨u, rfl, ru⟩ := vals1 r
    obtain ⟨w, rfl, rw⟩ := vals1 rz
    obtain rfl : w = Value.ref fa := rw
    have hcall : ∀ (pins' : List (Addr × Obj)) (H' : Hp) (s : Shared) (x : V) (u : Value) (E : Value → Shared → Prop), x ∈ xs → RelV x u → R H2 H' → Inv X pins' σ H' s → wpAny (model X.prog X.w) X.A.in1.in1 (call (.ref fa) [u]) (EP X pins' σ fun y H3 => R H' H3 ∧ Dp X.K H3 y (d x)) E s :=
      fun pins' H' s x u E hx ru hR I' => run_below (A := X.A.in1.in1) (room_in2 c.room) c.gd rfl F kb I' (.cons ru .nil) rfl (hc x hx H' hR)
    exact call_sortJ exr c.room.hd ru src al sk (fun x hx => by have := nd x hx; omega) hcall I2 hQ
/-- its words -/
def tSortF (g : G) (f : Expr → Option (WX → TE)) (sc : Scope) (x : Str) (es : List Expr) (kws : List Keyword) : Option (WX → TE) := match es, kws with
  | [e], [⟨some kn, .Name y _, _⟩] => if kn = "key" ∧ x = "sorted" ∧ sc.names.lookup x = some .globalImplicit ∧ x ∈ g.blt ∧ sc.names.lookup y = some .globalImplicit ∧ plainName y = true ∧ notStar e = true then
    (match f e, g.fns.find? (fun i => decide (i.name = y) && decide (i.n = 1) && decide (i.ks = [])) with
    | some t, some i => some fun W => cSortF g.K i.sp i.arr (t W)
    | _, _ => none) else none
  | _, _ => none
theorem tSortF_ok {g : G} {lev : Nat} {X : Cx} {N : List Str} {sc : Scope} {W : WX} {f : Expr → Option (WX → TE)} (c : COk g lev X N sc W) (h : ∀ e t, f e = some t → PE X e (t W)) {x : Str} {p pos : Pos} {es : List Expr} {kws : List Keyword} {t : WX → TE} (q : tSortF g f sc x es kws = some t) : PE X (.Call (.Name x p) es kws pos) (t W) := by
  unfold tSortF at q
  split at q
  · split at q
    · rename_i hc
      obtain ⟨rfl, rfl, hg, hb, hy, hp, hs⟩ := hc
      split at q
      · rename_i te i e1 ei
        cases q
        have hi := List.mem_of_find?_eq_some ei
        have hp2 := List.find?_some ei
        simp only [Bool.and_eq_true, decide_eq_true_eq] at hp2
        obtain ⟨⟨p1, p2⟩, p3⟩ := hp2
        subst p1
        exact pe_sortF c hi p2 p3 (by unfold Gl Env.kindOf; rw [c.hsc]; exact hg) (c.gok.blt _ hb) (by unfold Gl Env.kindOf; rw [c.hsc]; exact hy) hp hs (h _ _ e1)
      · cases q
    · cases q
  · cases q
end WR

set_option Elab.async false
set_option linter.all false
set_option maxRecDepth 100000
set_option maxHeartbeats 1000000
/-! list(zip(a, b)) of two lists or two tuples -/
namespace WR
open PySem PySem.Spec PyProof.Rows L2
/-- a list's items | a tuple's -/
def QAt : Bool → Heap → Addr → Array Value → Prop
  | true, h, l, xs => h.IsTuple l xs
  | false, h, l, xs => h.IsList l xs
def QIt : Bool → Heap → Addr → Addr → Nat → Prop
  | true, h, i, l, k => h.IsTupleIter i l k
  | false, h, i, l, k => h.IsListIter i l k
theorem QAt.to {tp : Bool} {h g : Heap} {l : Addr} {xs : Array Value} (q : QAt tp h l xs) (e : ∀ o, h.get? l = some o → g.get? l = some o) : QAt tp g l xs := by
  cases tp <;> (obtain ⟨o, a, b⟩ := q; exact ⟨o, e o a, b⟩)
theorem QIt.to {tp : Bool} {h g : Heap} {i l : Addr} {k : Nat} (q : QIt tp h i l k) (e : ∀ o, h.get? i = some o → g.get? i = some o) : QIt tp g i l k := by
  cases tp <;> (obtain ⟨o, a, b⟩ := q; exact ⟨o, e o a, b⟩)
theorem QIt.lt {tp : Bool} {h : Heap} {i l : Addr} {k : Nat} (q : QIt tp h i l k) : i < h.objs.size := by
  cases tp <;> (obtain ⟨o, a, b⟩ := q; exact Heap.lt_size a)
section
variable {prog : Program} {w : World} {A : Around} {E : Value → Shared → Prop} {s : Shared} {tp : Bool}
theorem q_item {i l : Addr} {k : Nat} {xs : Array Value} {x : Value} {Q : Value → Shared → Prop} (hi : QIt tp s.heap i l k) (hl : QAt tp s.heap l xs) (hx : xs[k]? = some x)
    (q : ∀ g, QIt tp g i l (k + 1) → Heap.SameBut i s.heap g → Q x { s with heap := g }) : wpAny (model prog w) A (Builtin.SmallTypes.nextOf (.ref i)) Q E s := by
  cases tp with
  | true => exact RZ.nextOf_tuple_item hi hl hx q
  | false => exact wpAny_nextOf_list_item hi hl hx q
theorem q_end {i l : Addr} {k : Nat} {xs : Array Value} {Q : Value → Shared → Prop} (hh : A.handled = none) (hi : QIt tp s.heap i l k) (hl : QAt tp s.heap l xs) (hx : xs[k]? = none)
    (q : ∀ g e, Heap.ExtBut i s.heap g → (∃ o, g.get? e = some o ∧ o.cls = .type "StopIteration") → E (.ref e) { s with heap := g }) : wpAny (model prog w) A (Builtin.SmallTypes.nextOf (.ref i)) Q E s := by
  cases tp with
  | true => exact RZ.nextOf_tuple_end hh hi hl hx q
  | false => exact wpAny_nextOf_list_end hh hi hl hx q
variable {z TI TO i1 i2 l1 l2 T : Addr} {k : Nat} {xs ys : Array Value} {x y u v : Value} {f : Bool} {oT : Obj}
/-- next of a zip whose tuple is out still -/
theorem zh_item {Q : Option Value → Shared → Prop} (D : ZipApart z TI TO i1 i2 l1 l2) (hz : IsZipHeld s.heap z TI TO T f) (hT : s.heap.get? T = some oT) (hI : IsPair s.heap TI (.ref i1) (.ref i2))
    (a1 : QIt tp s.heap i1 l1 k) (a2 : QIt tp s.heap i2 l2 k) (b1 : QAt tp s.heap l1 xs) (b2 : QAt tp s.heap l2 ys) (hx : xs[k]? = some x) (hy : ys[k]? = some y)
    (q : ∀ g, IsZipHeld g z TI TO T true → QIt tp g i1 l1 (k + 1) → QIt tp g i2 l2 (k + 1) → IsPair g s.heap.objs.size x y → g.objs.size = s.heap.objs.size + 1 →
      (∀ b o, b ≠ z → b ≠ i1 → b ≠ i2 → s.heap.get? b = some o → g.get? b = some o) → Q (some (.ref s.heap.objs.size)) { s with heap := g }) : wpAny (model prog w) A (pyNext (.ref z)) Q E s := by
  have ty : s.TypeIs (.ref z) "zip" := ⟨_, hz, rfl⟩
  have main : ∀ {A' : Around} {E' : Value → Shared → Prop}, wpAny (model prog w) A' (Builtin.«zip.__next__» ⟨[.ref z], []⟩) (fun fin s' => ∃ r, fin = .done (.ret r) ∧ wpAny (model prog w) A (pure (some r)) Q E s') E' s := by
    intro A' E'
    show wpAny _ _ (field (.ref z) 2 >>= _) _ _ _
    refine wpAny_bind (wpAny_field hz rfl (x := .bool false) rfl ?_); show wpAny _ _ (field (.ref z) 3 >>= _) _ _ _
    refine wpAny_bind (wpAny_field hz rfl (x := .ref TI) rfl (wpAny_bind (wpAny_seqItems hI rfl ?_)))
    show wpAny _ _ (Builtin.SmallTypes.ownedTupleIsFree (.ref z) >>= _) _ _ _
    refine wpAny_bind (wpAny_tupleHeld_zip hz hT fun g1 z1 s1 => ?_); simp only [Bool.false_eq_true, if_false]; refine wpAny_bind ?_
    rw [← Array.forIn_toList]; simp only [List.forIn_cons, List.forIn_nil]
    refine wpAny_bind (wpAny_bind (wpAny_holding ?_)); show wpAny _ _ (Builtin.SmallTypes.nextOf (.ref i1) >>= _) _ _ _
    refine wpAny_bind (q_item (tp := tp) (s := { s with heap := g1 }) (a1.to fun o e => s1.extBut _ _ D.i1z e) (b1.to fun o e => s1.extBut _ _ D.l1z e) hx fun g2 z2 s2 => wpAny_pure (wpAny_pure ?_))
    refine wpAny_bind (wpAny_bind (wpAny_holding ?_)); show wpAny _ _ (Builtin.SmallTypes.nextOf (.ref i2) >>= _) _ _ _
    refine wpAny_bind (q_item (tp := tp) (s := { s with heap := g2 }) (a2.to fun o e => s2.extBut _ _ D.i12.symm (s1.extBut _ _ D.i2z e)) (b2.to fun o e => s2.extBut _ _ D.l2i1 (s1.extBut _ _ D.l2z e)) hy fun g3 z3 s3 => wpAny_pure (wpAny_pure (wpAny_pure ?_)))
    show wpAny _ _ (newTuple [x, y] >>= _) _ _ _
    refine wpAny_bind (wpAny_newTuple (wpAny_pure ⟨_, rfl, wpAny_pure ?_⟩))
    have sz : g3.objs.size = s.heap.objs.size := by rw [s3.1, s2.1, s1.1]
    have kz : IsZipHeld g3 z TI TO T true := s3.extBut _ _ D.i2z.symm (s2.extBut _ _ D.i1z.symm z1)
    have kp : ∀ b o, b ≠ z → b ≠ i1 → b ≠ i2 → s.heap.get? b = some o → g3.get? b = some o := fun b o n1 n2 n3 e => s3.extBut _ _ n3 (s2.extBut _ _ n2 (s1.extBut _ _ n1 e))
    have k1 : QIt tp g3 i1 l1 (k + 1) := z2.to fun o e => s3.extBut _ _ D.i12 e
    show Q (some (.ref g3.objs.size)) _
    have kn : IsPair (g3.push { cls := .type "tuple", data := .seq #[x, y] }) g3.objs.size x y := Heap.get?_push_size _ rfl
    have ks : (g3.push { cls := .type "tuple", data := .seq #[x, y] }).objs.size = g3.objs.size + 1 := Heap.size_push ..
    rw [sz] at kn ks ⊢
    exact q _ (Heap.get?_push_of_some _ kz) (k1.to fun o e => Heap.get?_push_of_some _ e) (z3.to fun o e => Heap.get?_push_of_some _ e) kn ks fun b o n1 n2 n3 e => Heap.get?_push_of_some _ (kp b o n1 n2 n3 e)
  unfold pyNext
  exact wpAny_bind (wpAny_attempt (wpAny_callSpecial?_slot (name := Str.ofString "__next__") ty F.slot_zip_next (wpAny_call_entry F.slot_zip_next ty F.entry_zip_next main (F.args_zip_next_1 _))))
theorem zh_end {Q : Option Value → Shared → Prop} (hh : A.handled = none) (D : ZipApart z TI TO i1 i2 l1 l2) (hz : IsZipHeld s.heap z TI TO T f) (hT : s.heap.get? T = some oT) (hI : IsPair s.heap TI (.ref i1) (.ref i2))
    (a1 : QIt tp s.heap i1 l1 k) (a2 : QIt tp s.heap i2 l2 k) (b1 : QAt tp s.heap l1 xs) (b2 : QAt tp s.heap l2 ys) (hn : xs[k]? = none ∨ ys[k]? = none)
    (q : ∀ g, (∀ b o, b ≠ z → b ≠ i1 → b ≠ i2 → s.heap.get? b = some o → g.get? b = some o) → Q none { s with heap := g }) : wpAny (model prog w) A (pyNext (.ref z)) Q E s := by
  have ty : s.TypeIs (.ref z) "zip" := ⟨_, hz, rfl⟩
  have main : ∀ {A' : Around} {Q' : Fin → Shared → Prop} {E' : Value → Shared → Prop}, A'.handled = none → (∀ g e, (∀ b o, b ≠ z → b ≠ i1 → b ≠ i2 → s.heap.get? b = some o → g.get? b = some o) → (∃ o, g.get? e = some o ∧ o.cls = .type "StopIteration") → E' (.ref e) { s with heap := g }) →
      wpAny (model prog w) A' (Builtin.«zip.__next__» ⟨[.ref z], []⟩) Q' E' s := by
    intro A' Q' E' hh' hE
    show wpAny _ _ (field (.ref z) 2 >>= _) _ _ _
    refine wpAny_bind (wpAny_field hz rfl (x := .bool false) rfl ?_); show wpAny _ _ (field (.ref z) 3 >>= _) _ _ _
    refine wpAny_bind (wpAny_field hz rfl (x := .ref TI) rfl (wpAny_bind (wpAny_seqItems hI rfl ?_)))
    show wpAny _ _ (Builtin.SmallTypes.ownedTupleIsFree (.ref z) >>= _) _ _ _
    refine wpAny_bind (wpAny_tupleHeld_zip hz hT fun g1 z1 s1 => ?_); simp only [Bool.false_eq_true, if_false]; refine wpAny_bind ?_
    rw [← Array.forIn_toList]; simp only [List.forIn_cons, List.forIn_nil]
    refine wpAny_bind (wpAny_bind (wpAny_holding ?_)); show wpAny _ _ (Builtin.SmallTypes.nextOf (.ref i1) >>= _) _ _ _
    have c1 : QIt tp g1 i1 l1 k := a1.to fun o e => s1.extBut _ _ D.i1z e
    have d1 : QAt tp g1 l1 xs := b1.to fun o e => s1.extBut _ _ D.l1z e
    cases hx : xs[k]? with
    | none => exact wpAny_bind (q_end (tp := tp) (s := { s with heap := g1 }) hh' c1 d1 hx fun g2 e s2 he => hE g2 e (fun b o n1 n2 _ r => s2 _ _ n2 (s1.extBut _ _ n1 r)) he)
    | some x =>
      have hy : ys[k]? = none := hn.elim (fun z => by rw [hx] at z; cases z) id
      refine wpAny_bind (q_item (tp := tp) (s := { s with heap := g1 }) c1 d1 hx fun g2 z2 s2 => wpAny_pure (wpAny_pure (wpAny_bind (wpAny_bind (wpAny_holding ?_)))))
      show wpAny _ _ (Builtin.SmallTypes.nextOf (.ref i2) >>= _) _ _ _
      exact wpAny_bind (q_end (tp := tp) (s := { s with heap := g2 }) hh' (a2.to fun o e => s2.extBut _ _ D.i12.symm (s1.extBut _ _ D.i2z e)) (b2.to fun o e => s2.extBut _ _ D.l2i1 (s1.extBut _ _ D.l2z e)) hy fun g3 e s3 he => hE g3 e (fun b o n1 n2 n3 r => s3 _ _ n3 (s2.extBut _ _ n2 (s1.extBut _ _ n1 r))) he)
  unfold pyNext
  refine wpAny_bind (wpAny_attempt (wpAny_callSpecial?_slot (name := Str.ofString "__next__") ty F.slot_zip_next (wpAny_call_entry F.slot_zip_next ty F.entry_zip_next (main hh fun g e kp he => ?_) (F.args_zip_next_1 _))))
  obtain ⟨o, ho, hc⟩ := he
  exact wpAny_bind (wpAny_isInstance (T := "StopIteration") (b := true) ⟨o, ho, hc⟩ isSubtype_stop (wpAny_pure (q _ kp)))
end
/-- pairs told by their places -/
def ZpP (H : Hp) (xs ys : List V) (ts : List Addr) : Prop := ∀ (j : Nat) (t : Addr), ts[j]? = some t → ∃ x y, xs[j]? = some x ∧ ys[j]? = some y ∧ H t = some (.tup [x, y])
theorem ZpP.ex {H H' : Hp} {xs ys : List V} {ts : List Addr} (x : ∀ b o, H b = some o → H' b = some o) (h : ZpP H xs ys ts) : ZpP H' xs ys ts := fun j t e => by
  obtain ⟨u, v, a, b, c⟩ := h j t e
  exact ⟨u, v, a, b, x _ _ c⟩
/-- the zip at z has given k pairs -/
def ZSt (tp : Bool) (h : Heap) (z TI TO i1 i2 l1 l2 S : Addr) (k : Nat) : Prop := IsPair h TI (.ref i1) (.ref i2) ∧ QIt tp h i1 l1 k ∧ QIt tp h i2 l2 k ∧
  ((IsZip h z TI TO .none ∧ ∃ a b, IsPair h TO a b) ∨ ∃ T f oT, IsZipHeld h z TI TO T f ∧ h.get? T = some oT ∧ T ≠ z ∧ T ≠ i1 ∧ T ≠ i2 ∧ T ≠ S)
/-- what is apart from the list that is filled -/
structure ZAp (z TI TO i1 i2 S : Addr) : Prop where
  z : z ≠ S
  TI : TI ≠ S
  TO : TO ≠ S
  i1 : i1 ≠ S
  i2 : i2 ≠ S
theorem ZSt.to {tp : Bool} {h g : Heap} {z TI TO i1 i2 l1 l2 S : Addr} {k : Nat} (st : ZSt tp h z TI TO i1 i2 l1 l2 S k) (D : ZAp z TI TO i1 i2 S) (e : ∀ b o, b ≠ S → h.get? b = some o → g.get? b = some o) : ZSt tp g z TI TO i1 i2 l1 l2 S k := by
  obtain ⟨a, b, c, d⟩ := st
  refine ⟨e _ _ D.TI a, b.to fun o => e _ o D.i1, c.to fun o => e _ o D.i2, ?_⟩
  rcases d with ⟨d, u, v, w⟩ | ⟨T, f, oT, d, w, n1, n2, n3, n4⟩
  · exact .inl ⟨e _ _ D.z d, u, v, e _ _ D.TO w⟩
  · exact .inr ⟨T, f, oT, e _ _ D.z d, e _ _ n4 w, n1, n2, n3, n4⟩
/-- what the model tells of a list | a tuple -/
def LQ (tp : Bool) (K : PySem.W.Frag) (H : Hp) (a : Addr) (xs : List V) : Prop := match tp with
  | true => SqT K H a xs
  | false => SqL K H a xs
section
variable {X : Cx} {pins : List (Addr × Obj)} {σ : St} {H0 H : Hp} {s : Shared} {A : Around} {z TI TO i1 i2 a b S : Addr} {xs ys : List V} {R : Result → Shared → Prop} {tp : Bool}
theorem LQ.its (I : Inv X pins σ H s) (h : LQ tp X.K H a xs) : ∃ us : List Value, Vals xs us ∧ QAt tp s.heap a us.toArray := by
  cases tp with
  | true =>
    obtain ⟨us, r, p, _⟩ := I.tuple h
    exact ⟨us, r, p⟩
  | false =>
    obtain ⟨us, r, p, _⟩ := I.list h
    exact ⟨us, r, p.isList⟩
theorem LQ.ex {K : PySem.W.Frag} {H' : Hp} (e : ∀ b o, H b = some o → H' b = some o) (h : LQ tp K H a xs) : LQ tp K H' a xs := by
  cases tp with
  | true => exact sqT_exn (fun b o q _ => e b o q) h
  | false => exact sqL_exn (fun b o q _ => e b o q) h
theorem zp_item {k : Nat} {x y : V} {E : Value → Shared → Prop} {Q : Option Value → Shared → Prop} (I : Inv X pins σ H s) (D : ZipApart z TI TO i1 i2 a b) (hp : LQ tp X.K H a xs) (hq : LQ tp X.K H b ys) (hx : xs[k]? = some x) (hy : ys[k]? = some y)
    (st : ZSt tp s.heap z TI TO i1 i2 a b S k) (hS : S < s.heap.objs.size) (nS : ZAp z TI TO i1 i2 S) (ff : ∀ b ∈ [z, TO, i1, i2], FpOk X pins H b)
    (q : ∀ g, Inv X pins σ (upd H s.heap.objs.size (.tup [x, y])) { s with heap := g, toks := s.toks } → ZSt tp g z TI TO i1 i2 a b S (k + 1) → g.objs.size = s.heap.objs.size + 1 → (∀ c o, c ≠ z → c ≠ TO → c ≠ i1 → c ≠ i2 → s.heap.get? c = some o → g.get? c = some o) →
      Q (some (.ref s.heap.objs.size)) { s with heap := g, toks := s.toks }) : wpAny (model X.prog X.w) A (pyNext (.ref z)) Q E s := by
  obtain ⟨us, r1, q1⟩ := hp.its I
  obtain ⟨vs, r2, q2⟩ := hq.its I
  obtain ⟨u, hu, ru⟩ := r1.get hx
  obtain ⟨v, hv, rv⟩ := r2.get hy
  obtain ⟨hI, t1, t2, hz⟩ := st
  have l1 := t1.lt
  have l2 := t2.lt
  have fin : ∀ g, IsPair g s.heap.objs.size u v → (∀ c o, c ≠ z → c ≠ TO → c ≠ i1 → c ≠ i2 → s.heap.get? c = some o → g.get? c = some o) → Inv X pins σ (upd H s.heap.objs.size (.tup [x, y])) { s with heap := g, toks := s.toks } := fun g hT hk =>
    I.turnedNew (ch := [z, TO, i1, i2]) (fun c ob hc e => hk c ob (fun w => hc (by simp [w])) (fun w => hc (by simp [w])) (fun w => hc (by simp [w])) (fun w => hc (by simp [w])) e) ff (Nat.le_refl _) ⟨by show 2 ≤ sizeLine; decide, [u, v], .cons ru (.cons rv .nil), ⟨_, hT, rfl, _, rfl⟩⟩
  have hu' : us.toArray[k]? = some u := by simpa using hu
  have hv' : vs.toArray[k]? = some v := by simpa using hv
  have zl : z < s.heap.objs.size := by
    rcases hz with ⟨hz, _⟩ | ⟨_, _, _, hz, _⟩ <;> exact Heap.lt_size hz
  have n1 : s.heap.objs.size ≠ z := Nat.ne_of_gt zl
  have n2 : s.heap.objs.size ≠ i1 := Nat.ne_of_gt l1
  have n3 : s.heap.objs.size ≠ i2 := Nat.ne_of_gt l2
  have n4 : s.heap.objs.size ≠ S := Nat.ne_of_gt hS
  rcases hz with ⟨hz, c, d, hO⟩ | ⟨T, f, oT, hz, hT, m1, m2, m3, m4⟩
  · have nx : ∀ g, IsZip g z TI TO (rawInt s.heap.objs.size) → IsPair g TO u v → QIt tp g i1 a (k + 1) → QIt tp g i2 b (k + 1) → IsPair g s.heap.objs.size u v → g.objs.size = s.heap.objs.size + 1 →
        (∀ c o, c ≠ z → c ≠ TO → c ≠ i1 → c ≠ i2 → s.heap.get? c = some o → g.get? c = some o) → Q (some (.ref s.heap.objs.size)) { s with heap := g } := fun g w1 w2 w3 w4 w5 w6 w7 =>
      q g (fin g w5 w7) ⟨w7 _ _ D.TIz D.TITO D.TIi1 D.TIi2 hI, w3, w4, .inr ⟨s.heap.objs.size, false, _, w1, w5, n1, n2, n3, n4⟩⟩ w6 w7
    cases tp with
    | true => exact RZ.pyNext_zipT_item D hz hI hO t1 t2 q1 q2 hu' hv' nx
    | false => exact wpAny_pyNext_zip_item D hz hI hO t1 t2 q1 q2 hu' hv' nx
  · refine zh_item D hz hT hI t1 t2 q1 q2 hu' hv' fun g w1 w3 w4 w5 w6 w7 => ?_
    have w8 : ∀ c o, c ≠ z → c ≠ TO → c ≠ i1 → c ≠ i2 → s.heap.get? c = some o → g.get? c = some o := fun c o e1 _ e3 e4 => w7 c o e1 e3 e4
    exact q g (fin g w5 w8) ⟨w8 _ _ D.TIz D.TITO D.TIi1 D.TIi2 hI, w3, w4, .inr ⟨T, true, oT, w1, w7 _ _ m1 m2 m3 hT, m1, m2, m3, m4⟩⟩ w6 w8
theorem zp_done {k : Nat} {E : Value → Shared → Prop} {Q : Option Value → Shared → Prop} (hh : A.handled = none) (I : Inv X pins σ H s) (D : ZipApart z TI TO i1 i2 a b) (hp : LQ tp X.K H a xs) (hq : LQ tp X.K H b ys) (hn : min xs.length ys.length ≤ k)
    (st : ZSt tp s.heap z TI TO i1 i2 a b S k) (nS : ZAp z TI TO i1 i2 S) (ff : ∀ b ∈ [z, TO, i1, i2], FpOk X pins H b)
    (q : ∀ g, (∀ c o, c ≠ z → c ≠ TO → c ≠ i1 → c ≠ i2 → s.heap.get? c = some o → g.get? c = some o) → Inv X pins σ H { s with heap := g } → Q none { s with heap := g }) : wpAny (model X.prog X.w) A (pyNext (.ref z)) Q E s := by
  obtain ⟨us, r1, q1⟩ := hp.its I
  obtain ⟨vs, r2, q2⟩ := hq.its I
  obtain ⟨hI, t1, t2, hz⟩ := st
  have e1 := r1.length
  have e2 := r2.length
  have hn' : us.toArray[k]? = none ∨ vs.toArray[k]? = none := by
    rcases Nat.le_total xs.length ys.length with h | h
    · exact .inl (by simp; omega)
    · exact .inr (by simp; omega)
  have fin : ∀ g, (∀ c o, c ≠ z → c ≠ TO → c ≠ i1 → c ≠ i2 → s.heap.get? c = some o → g.get? c = some o) → Q none { s with heap := g } := fun g hk =>
    q g hk (I.turnedL (t' := s.toks) (ch := [z, TO, i1, i2]) (fun c ob hc e => hk c ob (fun w => hc (by simp [w])) (fun w => hc (by simp [w])) (fun w => hc (by simp [w])) (fun w => hc (by simp [w])) e) ff)
  rcases hz with ⟨hz, c, d, hO⟩ | ⟨T, f, oT, hz, hT, m1, m2, m3, m4⟩
  · cases tp with
    | true => exact RZ.pyNext_zipT_end hh D hz hI hO t1 t2 q1 q2 hn' fin
    | false => exact wpAny_pyNext_zip_end hh D hz hI hO t1 t2 q1 q2 hn' fin
  · exact zh_end hh D hz hT hI t1 t2 q1 q2 hn' fun g hk => fin g fun c o c1 _ c3 c4 => hk c o c1 c3 c4
theorem zp_loop (hh : A.handled = none) (hp : LQ tp X.K H0 a xs) (hq : LQ tp X.K H0 b ys) (hlen : min xs.length ys.length ≤ 100000) (D : ZipApart z TI TO i1 i2 a b) (nS : ZAp z TI TO i1 i2 S) (res : Value)
    (hR : ∀ s' H' acc c ts, Inv X pins σ H' s' → (∀ b o, H0 b = some o → H' b = some o) → FpOk X pins H' S → s'.heap.get? S = some { cls := .type "list", dict := none, data := .seq acc c, slots := #[] } → acc.toList = ts.map Value.ref → ts.length = min xs.length ys.length → ZpP H' xs ys ts → R (.ok (.ret res)) s') :
    ∀ (k i : Nat) (s : Shared) (H : Hp) (acc : Array Value) (c : Nat) (ts : List Addr), min xs.length ys.length - i = k → i ≤ min xs.length ys.length → Inv X pins σ H s → (∀ b o, H0 b = some o → H b = some o) → ZSt tp s.heap z TI TO i1 i2 a b S i → (∀ b ∈ [z, TO, i1, i2], FpOk X pins H b) → (∀ b ∈ [z, TO, i1, i2], b < s.heap.objs.size) → FpOk X pins H S →
    s.heap.get? S = some { cls := .type "list", dict := none, data := .seq acc c, slots := #[] } → acc.toList = ts.map Value.ref → ts.length = i → ZpP H xs ys ts → codeAny (model X.prog X.w) A (.builtin "list.extend.loop" ⟨[.ref S, .ref z, res], []⟩) R s := by
  have hsl := sizeLine_eq
  intro k
  induction k with
  | zero =>
    intro i s H acc c ts hk hi I ex st ff hB fS hS hacc hts ep
    refine codeAny_builtin PySem.F.entry_extend_loop ?_
    rw [Around.under_plainId PySem.F.plain_extend_loop _]
    show wpAny _ A.in1 (pyNext (.ref z) >>= _) _ _ _
    refine wpAny_bind (zp_done (tp := tp) (S := S) (A := A.in1) hh I D (hp.ex ex) (hq.ex ex) (by omega) st nS ff fun g hk' I' => ?_)
    exact wpAny_pure (hR _ H acc c ts I' ex fS (hk' S _ nS.z.symm nS.TO.symm nS.i1.symm nS.i2.symm hS) hacc (by omega) ep)
  | succ k ih =>
    intro i s H acc c ts hk hi I ex st ff hB fS hS hacc hts ep
    have h1 : i < xs.length := by omega
    have h2 : i < ys.length := by omega
    have hx : xs[i]? = some xs[i] := List.getElem?_eq_getElem h1
    have hy : ys[i]? = some ys[i] := List.getElem?_eq_getElem h2
    have hSl : S < s.heap.objs.size := Heap.lt_size hS
    have hn : H s.heap.objs.size = none := I.hok.fresh (Nat.le_refl _)
    have hsz : acc.size = i := by rw [← Array.length_toList, hacc, List.length_map, hts]
    have hlts : ∀ b ∈ [z, TO, i1, i2], b ≠ s.heap.objs.size := fun b hb => Nat.ne_of_lt (hB b hb)
    refine codeAny_builtin PySem.F.entry_extend_loop ?_
    rw [Around.under_plainId PySem.F.plain_extend_loop _]
    show wpAny _ A.in1 (pyNext (.ref z) >>= _) _ _ _
    refine wpAny_bind (zp_item (tp := tp) (S := S) (A := A.in1) I D (hp.ex ex) (hq.ex ex) hx hy st hSl nS ff fun g I' st' hsz' hk' => ?_)
    have hS' : g.get? S = some { cls := .type "list", dict := none, data := .seq acc c, slots := #[] } := hk' S _ nS.z.symm nS.TO.symm nS.i1.symm nS.i2.symm hS
    have new : ∀ b o, H b = some o → upd H s.heap.objs.size (.tup [xs[i], ys[i]]) b = some o := fun b o q => by rw [upd_ne (fun w => by rw [w, hn] at q; cases q)]; exact q
    have fS' : FpOk X pins (upd H s.heap.objs.size (.tup [xs[i], ys[i]])) S := fp_upd fS (Nat.ne_of_lt hSl)
    show wpAny _ A.in1 (updateSeq S (·.push (Value.ref s.heap.objs.size)) >>= _) _ _ _
    refine wpAny_bind ?_
    obtain ⟨f0, f1, f2, f3, f4, f5⟩ := id fS'
    have oth : ∀ b o, b ≠ S → g.get? b = some o → (g.update S (Obj.mapSeq (·.push (Value.ref s.heap.objs.size)))).get? b = some o := fun b o hb q => (Heap.get?_update_other _ _ (fun w => hb w.symm)).trans q
    have I2 := I'.turned (it := S) (h' := g.update S (Obj.mapSeq (·.push (Value.ref s.heap.objs.size)))) (t' := s.toks) (fun b o hb q => oth b o hb q) f0 f1 f3 f4 f5
    refine wpAny_updateSeq hS' rfl (wpAny_pure ⟨plainId_quiet PySem.F.plain_extend_loop _, ih (i + 1) _ _ (acc.push (Value.ref s.heap.objs.size)) _ (ts ++ [s.heap.objs.size]) (by omega) (by omega) I2 (fun b o q => new b o (ex b o q)) (st'.to nS oth) (fun b hb => fp_upd (ff b hb) (hlts b hb)) (fun b hb => by
        rw [Heap.size_update, hsz']
        exact Nat.lt_succ_of_lt (hB b hb)) fS'
      (Heap.get?_update_self _ hS' rfl) (by rw [Array.toList_push, hacc, List.map_append]; rfl) (by rw [List.length_append, hts]; rfl) (fun j t hj => ?_)⟩) (by rw [hsz]; omega) (by show (acc.push _).size ≤ sizeLine + 1; rw [Array.size_push, hsz]; omega)
    rcases Nat.lt_trichotomy j ts.length with h1 | h1 | h1
    · rw [List.getElem?_append_left h1] at hj
      obtain ⟨u, v, e1, e2, e3⟩ := ep j t hj
      exact ⟨u, v, e1, e2, new _ _ e3⟩
    · subst h1
      have hb : s.heap.objs.size = t := by simpa using hj
      subst hb
      rw [hts]
      exact ⟨_, _, hx, hy, upd_same⟩
    · rw [List.getElem?_eq_none (by rw [List.length_append, List.length_singleton]; omega)] at hj
      cases hj
end
theorem zp_nolen : typeLookup (.type "zip") "__len__" = pure none := by rw [typeLookup_type, builtinLookup_eq_fast]; kernel_rfl
theorem zp_nohint : typeLookup (.type "zip") "__length_hint__" = pure none := by rw [typeLookup_type, builtinLookup_eq_fast]; kernel_rfl
theorem zp_hint {prog : Program} {w : World} {A : Around} {E : Value → Shared → Prop} {s : Shared} {r : Addr} (hT : s.TypeIs (.ref r) "zip") {Q : Bool → Shared → Prop} (h : Q true s) : wpAny (model prog w) A (Builtin.List.listLengthHint (.ref r)) Q E s := by
  unfold Builtin.List.listLengthHint
  refine wpAny_bind (wpAny_specialOf hT zp_nolen ?_)
  show wpAny _ A (specialOf (Value.ref r) (Str.ofString "__length_hint__") >>= _) _ _ _
  exact wpAny_bind (wpAny_specialOf hT zp_nohint (wpAny_pure h))
section
variable {X : Cx} {pins : List (Addr × Obj)} {σ : St} {H : Hp} {s : Shared} {A : Around} {z TI TO i1 i2 a b S : Addr} {xs ys : List V} {R : Result → Shared → Prop} {tp : Bool}
/-- what stands behind list(zip(a, b)) -/
def ZpEnd (X : Cx) (pins : List (Addr × Obj)) (σ : St) (H : Hp) (S : Addr) (xs ys : List V) (s' : Shared) : Prop := ∃ H' acc c ts, Inv X pins σ H' s' ∧ (∀ b o, H b = some o → H' b = some o) ∧ FpOk X pins H' S ∧ s'.heap.get? S = some { cls := .type "list", dict := none, data := .seq acc c, slots := #[] } ∧ acc.toList = ts.map Value.ref ∧ ts.length = min xs.length ys.length ∧ ZpP H' xs ys ts
theorem zp_extend (hh : A.handled = none) (I : Inv X pins σ H s) (hp : LQ tp X.K H a xs) (hq : LQ tp X.K H b ys) (hlen : min xs.length ys.length ≤ 100000) (D : ZipApart z TI TO i1 i2 a b) (nS : ZAp z TI TO i1 i2 S) (ff : ∀ b ∈ [z, TO, i1, i2], FpOk X pins H b) (fS : FpOk X pins H S) {c₀ : Nat} {u v : Value}
    (hz : IsZip s.heap z TI TO .none) (hI : IsPair s.heap TI (.ref i1) (.ref i2)) (hO : IsPair s.heap TO u v) (t1 : QIt tp s.heap i1 a 0) (t2 : QIt tp s.heap i2 b 0) (hS : s.heap.get? S = some { cls := .type "list", dict := none, data := .seq #[] c₀, slots := #[] }) (res : Value) (hR : ∀ s', ZpEnd X pins σ H S xs ys s' → R (.ok (.ret res)) s') :
    wpAny (model X.prog X.w) A.in1 (Builtin.List.listExtendWith (.ref S) (.ref z) res)
      (fun fin s' => match fin with | .done f => R (.ok f) s' | .again c' => c'.quiet = true ∧ codeAny (model X.prog X.w) A c' R s') (fun e s' => R (.error e) s') s := by
  have st : ZSt tp s.heap z TI TO i1 i2 a b S 0 := ⟨hI, t1, t2, .inl ⟨hz, _, _, hO⟩⟩
  have hB : ∀ b ∈ [z, TO, i1, i2], b < s.heap.objs.size := fun b hb => by
    simp only [List.mem_cons, List.not_mem_nil, or_false] at hb
    rcases hb with rfl | rfl | rfl | rfl
    · exact Heap.lt_size hz
    · exact Heap.lt_size hO
    · exact t1.lt
    · exact t2.lt
  have key : ∀ (s1 : Shared) (c₁ : Nat), Inv X pins σ H s1 → ZSt tp s1.heap z TI TO i1 i2 a b S 0 → (∀ b ∈ [z, TO, i1, i2], b < s1.heap.objs.size) → s1.heap.get? S = some { cls := .type "list", dict := none, data := .seq #[] c₁, slots := #[] } → codeAny (model X.prog X.w) A (.builtin "list.extend.loop" ⟨[.ref S, .ref z, res], []⟩) R s1 := fun s1 c₁ I1 st1 hB1 hS1 =>
    zp_loop (A := A) (H0 := H) hh hp hq hlen D nS res (fun s' H' acc c ts J ex fS' h1 h2 h3 h4 => hR s' ⟨H', acc, c, ts, J, ex, fS', h1, h2, h3, h4⟩) _ 0 s1 H #[] c₁ [] (Nat.sub_zero _) (Nat.zero_le _) I1 (fun _ _ q => q) st1 ff hB1 fS hS1 rfl rfl fun j t hj => by simp at hj
  unfold Builtin.List.listExtendWith
  refine wpAny_bind (wpAny_typeOf (T := "zip") ⟨_, hz, rfl⟩ ?_)
  have w1 : Builtin.List.listSameRef (.ref S) (.ref z) = false := by simp [Builtin.List.listSameRef, nS.z.symm]
  have w2 : (Value.type "zip" == Value.type "list") = false := by decide
  have w3 : (Value.type "zip" == Value.type "tuple") = false := by decide
  simp only [w1, w2, w3, Bool.or_false, Bool.false_eq_true, if_false]
  refine wpAny_bind (wpAny_pyIter_zip hz (wpAny_bind (wpAny_holding (zp_hint ⟨_, hz, rfl⟩ ?_))))
  refine wpAny_ite_split (fun _ => ?_) (fun _ => wpAny_pure ⟨plainId_quiet PySem.F.plain_extend_loop _, key s c₀ I st hB hS⟩)
  refine wpAny_bind (wpAny_rule (wpAny_bind ?_))
  show wpAny _ _ (updateSeq S (·.push .none) >>= fun _ => updateSeq S (·.pop)) _ _ _
  refine wpAny_bind (wpAny_updateSeq hS rfl ?_)
  have p2 := Heap.get?_update_self (Obj.mapSeq (·.push Value.none)) hS rfl
  refine wpAny_updateSeq (hz := by seq_fits) p2 rfl ?_
  have p3 := Heap.get?_update_self (Obj.mapSeq (·.pop)) p2 rfl
  have J2 := s_upd (o := { cls := .none }) (vs := #[]) (ws := #[]) (c := 0) (c' := 0) I fS (·.push Value.none)
  have J3 := s_upd (o := { cls := .none }) (vs := #[]) (ws := #[]) (c := 0) (c' := 0) J2 fS (·.pop)
  have oth : ∀ b o, b ≠ S → s.heap.get? b = some o → ((s.heap.update S (Obj.mapSeq (·.push Value.none))).update S (Obj.mapSeq (·.pop))).get? b = some o := fun b o hb q => (Heap.get?_update_other _ _ (Ne.symm hb)).trans ((Heap.get?_update_other _ _ (Ne.symm hb)).trans q)
  exact wpAny_pure ⟨plainId_quiet PySem.F.plain_extend_loop _, key _ _ J3 (st.to nS oth) (fun b hb => by rw [Heap.size_update, Heap.size_update]; exact hB b hb) p3⟩
theorem zp_init (hh : A.handled = none) (I : Inv X pins σ H s) (hp : LQ tp X.K H a xs) (hq : LQ tp X.K H b ys) (hlen : min xs.length ys.length ≤ 100000) (D : ZipApart z TI TO i1 i2 a b) (nS : ZAp z TI TO i1 i2 S) (ff : ∀ b ∈ [z, TO, i1, i2], FpOk X pins H b) (fS : FpOk X pins H S) {u v : Value}
    (hz : IsZip s.heap z TI TO .none) (hI : IsPair s.heap TI (.ref i1) (.ref i2)) (hO : IsPair s.heap TO u v) (t1 : QIt tp s.heap i1 a 0) (t2 : QIt tp s.heap i2 b 0) (hS : s.heap.get? S = some { cls := .type "list", dict := none, data := .seq #[], slots := #[] }) (hR : ∀ s', ZpEnd X pins σ H S xs ys s' → R (.ok (.ret .none)) s') :
    wpAny (model X.prog X.w) A.in1 (Builtin.«list.__init__» ⟨[.ref S, .ref z], []⟩)
      (fun fin s' => match fin with | .done f => R (.ok f) s' | .again c' => c'.quiet = true ∧ codeAny (model X.prog X.w) A c' R s') (fun e s' => R (.error e) s') s := by
  show wpAny _ _ (do let old ← Builtin.List.listItems (.ref S); Builtin.List.listUpdate (.ref S) (fun _ => #[]); letGo old.toList.reverse; Builtin.List.listExtendWith (.ref S) (.ref z) .none) _ _ s
  refine wpAny_bind ?_
  unfold Builtin.List.listItems
  refine wpAny_bind (wpAny_seqItems hS rfl (wpAny_pure ?_))
  show wpAny _ _ (updateSeq S (fun _ => #[]) >>= fun _ => letGo (#[] : Array Value).toList.reverse >>= fun _ => Builtin.List.listExtendWith (.ref S) (.ref z) .none) _ _ s
  refine wpAny_bind (wpAny_updateSeq hS rfl ?_)
  have p2 := Heap.get?_update_self (Obj.mapSeq (fun _ => (#[] : Array Value))) hS rfl
  have oth : ∀ b o, b ≠ S → s.heap.get? b = some o → (s.heap.update S (Obj.mapSeq (fun _ => (#[] : Array Value)))).get? b = some o :=
    fun b o hb e => (Heap.get?_update_other _ _ (Ne.symm hb)).trans e
  have J2 := s_upd (o := { cls := .none }) (vs := #[]) (ws := #[]) (c := 0) (c' := 0) I fS (fun _ => (#[] : Array Value))
  exact wpAny_bind (wpAny_letGo (zp_extend hh J2 hp hq hlen D nS ff fS (oth z _ nS.z hz) (oth _ _ nS.TI hI) (oth _ _ nS.TO hO) (t1.to fun o => oth i1 o nS.i1) (t2.to fun o => oth i2 o nS.i2) p2 .none hR))
/-- list(a zip that stands at its beginning) -/
theorem zp_call {E : Value → Shared → Prop} {Q : Value → Shared → Prop} {u v : Value} (hh : A.handled = none) (I : Inv X pins σ H s) (hp : LQ tp X.K H a xs) (hq : LQ tp X.K H b ys) (hlen : min xs.length ys.length ≤ 100000) (D : ZipApart z TI TO i1 i2 a b) (ff : ∀ b ∈ [z, TO, i1, i2], FpOk X pins H b)
    (hz : IsZip s.heap z TI TO .none) (hI : IsPair s.heap TI (.ref i1) (.ref i2)) (hO : IsPair s.heap TO u v) (t1 : QIt tp s.heap i1 a 0) (t2 : QIt tp s.heap i2 b 0) (hQ : ∀ s', ZpEnd X pins σ H s.heap.objs.size xs ys s' → Q (.ref s.heap.objs.size) s') :
    wpAny (model X.prog X.w) A (call (.type "list") [.ref z]) Q E s := by
  refine callType_codes (Q₁ := fun obj s₁ => obj = .ref s.heap.objs.size ∧ s₁ = { s with heap := s.heap.push { cls := .type "list", data := .seq #[] } }) PySem.F.called_list (PySem.F.typeCall_list_1 _) PySem.F.entry_list_init
    (code_list_new _ ⟨rfl, rfl⟩) fun obj s₁ h₁ => ?_
  obtain ⟨rfl, rfl⟩ := h₁
  have p1 : (s.heap.push { cls := .type "list", data := .seq #[] }).get? s.heap.objs.size = some { cls := .type "list", data := .seq #[] } := Heap.get?_push_size _ rfl
  have hn : H s.heap.objs.size = none := I.hok.fresh (Nat.le_refl _)
  have fS : FpOk X pins H s.heap.objs.size := I.fpOk (Nat.le_refl _) hn
  have J1 : Inv X pins σ H { s with heap := s.heap.push { cls := .type "list", data := .seq #[] }, toks := s.toks } := I.kept (t' := s.toks) fun b o q => Heap.get?_push_of_some _ q
  have nS : ZAp z TI TO i1 i2 s.heap.objs.size := ⟨Nat.ne_of_lt (Heap.lt_size hz), Nat.ne_of_lt (Heap.lt_size hI), Nat.ne_of_lt (Heap.lt_size hO), Nat.ne_of_lt t1.lt, Nat.ne_of_lt t2.lt⟩
  refine ⟨⟨_, p1, rfl⟩, PySem.F.args_list_init_2 _ _, zp_init (A := A.in1) hh J1 hp hq hlen D nS ff fS (Heap.get?_push_of_some _ hz) (Heap.get?_push_of_some _ hI) (Heap.get?_push_of_some _ hO) (t1.to fun o q => Heap.get?_push_of_some _ q) (t2.to fun o q => Heap.get?_push_of_some _ q) p1 fun s' h => ?_⟩
  exact ⟨rfl, hQ s' h⟩
end
section
variable {X : Cx} {pins : List (Addr × Obj)} {σ : St} {H : Hp} {s : Shared} {S : Addr} {xs ys : List V}
theorem zp_tracked (h : ZpEnd X pins σ H S xs ys s) (hlen : min xs.length ys.length ≤ 100000) : ∃ H' ts, Inv X pins σ H' s ∧ (∀ b o, H b = some o → H' b = some o) ∧ H' S = some (.lst (ts.map V.ref)) ∧ ts.length = min xs.length ys.length ∧ ZpP H' xs ys ts := by
  obtain ⟨H1, acc, c, ts, I, ex, fS, hS, hacc, hl, ep⟩ := h
  have hsl := sizeLine_eq
  have kp : ∀ b u, H1 b = some u → upd H1 S (.lst (ts.map V.ref)) b = some u := fun b u q => by
    rw [upd_ne (fun w => by rw [w, fS.1] at q; cases q)]; exact q
  refine ⟨upd H1 S (.lst (ts.map V.ref)), ts, ?_, fun b o q => kp b o (ex b o q), upd_same, hl, ep.ex kp⟩
  obtain ⟨f0, f1, f2, f3, f4, f5⟩ := fS
  refine I.step (g' := s.gens) (d' := s.drawn) (t' := s.toks) (h' := s.heap) (ch := [S]) (fun b hb => ?_) (fun b o _ _ _ q _ => q) (fun b o _ _ _ q _ => ⟨o.slots, q⟩) (fun b o hb q n => ?_) (fun b o _ q => ⟨o, q⟩) (fun b us q => kp b _ q) (fun b o u q => kp b _ q) (fun b ps q => ⟨#[], by rw [kp b _ q]; simp⟩) (fun m hm => hm) (fun b u q => ?_) I.bare
  · have : b = S := by simpa using hb
    subst this
    exact ⟨f3, f1, f4, f5⟩
  · rw [upd_ne (by simpa using hb)]; exact n
  · by_cases hb : b = S
    · subst hb
      rw [upd_same] at q
      cases q
      refine ⟨by rw [List.length_map]; omega, acc.toList, c, by rw [hacc]; exact vals_refs' ts, ?_⟩
      rw [Array.toArray_toList]
      exact hS
    · rw [upd_ne hb] at q
      exact (I.hok b u q).stay (fun d v _ y => y) (fun d y => kp d _ y) fun d ys y => kp d _ y
end
/-- list(zip(a, b)) -/
def cLZip (K : PySem.W.Frag) (ta : TA) : TE := fun σ H Q => ta σ H fun vs H2 => ∃ tp a b xs ys, vs = [.ref a, .ref b] ∧ LQ tp K H2 a xs ∧ LQ tp K H2 b ys ∧ min xs.length ys.length ≤ 100000 ∧ ∀ S H' ts, H2 S = none → (∀ b o, H2 b = some o → H' b = some o) → H' S = some (.lst (ts.map V.ref)) → ts.length = min xs.length ys.length → ZpP H' xs ys ts → Q (.ref S) H'
theorem pe_listZip {X : Cx} {e1 e2 : Expr} {ta : TA} {p p2 pos pos2 : Pos} (hh : X.A.handled = none) (ha : PA X [e1, e2] ta) (hs1 : notStar e1 = true) (hs2 : notStar e2 = true) (hg : Gl X "list") (hm : X.mg "list" = none) (hg2 : Gl X "zip") (hm2 : X.mg "zip" = none) :
    PE X (.Call (.Name "list" p) [.Call (.Name "zip" p2) [e1, e2] [] pos2] [] pos) (cLZip X.K ta) := by
  refine ⟨fun pins s σ H Q I hq => ?_⟩
  have hs : starEach [.Call (.Name "zip" p2) [e1, e2] [] pos2] X.env = (false, eval (.Call (.Name "zip" p2) [e1, e2] [] pos2) X.env) :: starEach [] X.env := rfl
  have r2 : starEach [e2] X.env = [(false, eval e2 X.env)] := by cases e2 <;> first | rfl | exact absurd hs2 Bool.false_ne_true
  have r1 : starEach [e1, e2] X.env = (false, eval e1 X.env) :: starEach [e2] X.env := by cases e1 <;> first | rfl | exact absurd hs1 Bool.false_ne_true
  refine wpAny_Call_Name_kw (ld_blt I hg hm PyProof.Rows.Boot.«list» ?_)
  refine PyProof.Rows.callWith_type1 ?_ hs rfl
  rw [hs]
  show wpAny _ _ (spliced ((false, eval (.Call (.Name "zip" p2) [e1, e2] [] pos2) X.env) :: backTo pos (starEach [] X.env))) _ _ s
  refine Calls.spliced_cons ?_
  refine Call_ (ld_blt I hg2 hm2 PyProof.Rows.boot_zip (PyProof.Rows.callWith_type1 (thn (ha.run pos2 pins s σ H _ I hq) fun us s1 ⟨vs, H1, I1, rx, tp, a, b, xs, ys, ex, hp, hq', hl, q⟩ => ?_) r1 (by rw [r2]; rfl)))
  subst ex
  cases rx with
  | cons rx rr =>
    cases rr with
    | cons ry rr =>
      cases rr
      cases rx
      cases ry
      obtain ⟨us, v1, p1⟩ := hp.its I1
      obtain ⟨ws, v2, p2'⟩ := hq'.its I1
      have go : ∀ h', IsZip h' (s1.heap.objs.size + 4) (s1.heap.objs.size + 2) (s1.heap.objs.size + 3) .none → IsPair h' (s1.heap.objs.size + 2) (.ref s1.heap.objs.size) (.ref (s1.heap.objs.size + 1)) → IsPair h' (s1.heap.objs.size + 3) .none .none →
          QIt tp h' s1.heap.objs.size a 0 → QIt tp h' (s1.heap.objs.size + 1) b 0 → h'.objs.size = s1.heap.objs.size + 5 → (∀ c o, s1.heap.get? c = some o → h'.get? c = some o) →
          wpAny (model X.prog X.w) X.A (spliced (backTo pos (starEach [] X.env))) (fun vs s₁ => wpAny (model X.prog X.w) X.A (call (.type "list") (.ref (s1.heap.objs.size + 4) :: vs)) (EP X pins σ Q) X.xe s₁) X.xe { s1 with heap := h' } := by
        intro h' hz hTI hTO t1 t2 hsz hk
        have I2 : Inv X pins σ H1 { s1 with heap := h' } := I1.kept (t' := s1.toks) hk
        have D : ZipApart (s1.heap.objs.size + 4) (s1.heap.objs.size + 2) (s1.heap.objs.size + 3) s1.heap.objs.size (s1.heap.objs.size + 1) a b := by
          have la : a < s1.heap.objs.size := by cases tp <;> (obtain ⟨_, w, _⟩ := p1; exact Heap.lt_size w)
          have lb : b < s1.heap.objs.size := by cases tp <;> (obtain ⟨_, w, _⟩ := p2'; exact Heap.lt_size w)
          exact PySem.W.ktu_apart _ _ _ la lb
        refine Calls.spliced_nil ?_
        refine zp_call (tp := tp) hh I2 hp hq' hl D (fun c hc => ?_) hz hTI hTO t1 t2 fun s' hend => ?_
        · have hle : s1.heap.objs.size ≤ c := by
            simp only [List.mem_cons, List.not_mem_nil, or_false] at hc
            rcases hc with w | w | w | w
            · rw [w]; exact Nat.le_add_right _ _
            · rw [w]; exact Nat.le_add_right _ _
            · rw [w]; exact Nat.le_refl _
            · rw [w]; exact Nat.le_add_right _ _
          exact I1.fpOk hle (I1.hok.fresh hle)
        · have hn : H1 h'.objs.size = none := I2.hok.fresh (Nat.le_refl _)
          obtain ⟨H', ts, J, k1, k2, k3, k4⟩ := zp_tracked hend hl
          exact ⟨.ref _, H', J, rfl, q _ H' ts hn k1 k2 k3 k4⟩
      cases tp with
      | true => exact RZ.call_zipT p1 p2' go
      | false => exact call_zip_2 p1 p2' go
end WR

set_option Elab.async false
set_option linter.all false
set_option maxRecDepth 100000
set_option maxHeartbeats 3200000
/-! len(set(l)) of unlike numbers and texts -/
namespace WR
open PySem PySem.Spec PyProof.Rows L2
noncomputable def inK (ks : List Key) (k : Key) : Bool := @decide (k ∈ ks) (Classical.propDecidable _)
theorem inK_iff {ks : List Key} {k : Key} : inK ks k = true ↔ k ∈ ks := by unfold inK; exact @decide_eq_true_iff _ (Classical.propDecidable _)
theorem inK_no {ks : List Key} {k : Key} (h : k ∉ ks) : inK ks k = false := by
  cases e : inK ks k with
  | false => rfl
  | true => exact absurd (inK_iff.mp e) h
theorem setk_c {P : Program} {w : World} {h : Heap} {a : Addr} {S S' : Key → Bool} {n n' : Nat} (hS : h.SetOf (mixKind P w) a S n) (e : ∀ k, S k = S' k) (en : n = n') : h.SetOf (mixKind P w) a S' n' := by
  obtain rfl : S = S' := funext e
  subst en
  exact hS
section
variable {prog : Program} {w : World} {A : Around} {R : Result → Shared → Prop} {I : Addr} {fp wr : List Addr} {G : Array GenState → Array GenState → Prop} {n : Nat} {P : Nat → Value → Prop} {St : Nat → Shared → Prop}
theorem setk_loop (W : WalksS prog w A.in1 I fp wr G n P St) (S : Addr) (hSf : S ∉ fp) (ks : List Key) (hl : ks.length = n) (nd : ks.Nodup) (hv : ∀ (i : Nat) (v : Value), P i v → ∃ k, ks[i]? = some k ∧ (mixKind prog w).is k v = true ∧ v.scannable = true) (hb : n + 1 < scanBound) :
    ∀ (d i : Nat) (s : Shared), n - i = d → i ≤ n → St i s → s.heap.SetOf (mixKind prog w) S (inK (ks.take i)) i →
      (∀ s', Moved (S :: wr) G s s' → s'.heap.SetOf (mixKind prog w) S (inK ks) n → R (.ok (.ret .none)) s') → codeAny (model prog w) A (.builtin "set.update.loop" ⟨[.ref S, .ref I], []⟩) R s := by
  have hSw : S ∉ wr := fun z => hSf (W.sub _ z)
  have up : ∀ b ∈ wr, b ∈ S :: wr := fun b => List.mem_cons_of_mem _
  intro d
  induction d with
  | zero =>
    intro i s hd hi st hS hR
    obtain rfl : i = n := by omega
    refine codeAny_builtin PyProof.Rows.F.entry_set_update_loop ?_; rw [Around.under_plainId PyProof.Rows.F.plain_set_update_loop _]
    show wpAny _ A.in1 (pyNext (.ref I) >>= _) _ _ s
    refine wpAny_bind (W.done s _ _ st fun s' m => wpAny_pure (hR s' (m.mono up) ?_))
    rw [show inK ks = inK (ks.take i) from by rw [← hl, List.take_length]]
    obtain ⟨o, es, ep, t, ho, r⟩ := hS
    exact ⟨o, es, ep, t, m.heap S _ hSw ho, r⟩
  | succ d ih =>
    intro i s hd hi st hS hR
    have hlt : i < n := by omega
    refine codeAny_builtin PyProof.Rows.F.entry_set_update_loop ?_; rw [Around.under_plainId PyProof.Rows.F.plain_set_update_loop _]
    show wpAny _ A.in1 (pyNext (.ref I) >>= _) _ _ s
    refine wpAny_bind (W.item i s _ _ hlt st fun v s' hP st' m => ?_)
    obtain ⟨k, hk, is, sc⟩ := hv i v hP
    have hS' : s'.heap.SetOf (mixKind prog w) S (inK (ks.take i)) i := by
      obtain ⟨o, es, ep, t, ho, r⟩ := hS
      exact ⟨o, es, ep, t, m.heap S _ hSw ho, r⟩
    show wpAny _ A.in1 (holding [v] (setAdd S v) >>= _) _ _ s'
    refine wpAny_bind (wpAny_holding ?_); unfold setAdd
    refine wpAny_holding (wpAny_bind ((mixKind prog w).pyHash (k := k) is ?_))
    refine wpAny_setAddHashed_of (knd := mixKind prog w) (s := { s' with toks := s'.toks + 1 }) is sc hS' (by omega) fun g sb hS2 => ?_
    have no : k ∉ ks.take i := fun z => by
      obtain ⟨j, hj⟩ := List.mem_iff_getElem?.mp z
      have hji : j < i := by have := (List.getElem?_eq_some_iff.mp hj).1; rw [List.length_take] at this; omega
      rw [List.getElem?_take_of_lt hji] at hj
      obtain ⟨h1, e1⟩ := List.getElem?_eq_some_iff.mp hj
      obtain ⟨h2, e2⟩ := List.getElem?_eq_some_iff.mp hk
      exact List.pairwise_iff_getElem.mp nd j i h1 h2 hji (e1.trans e2.symm)
    have hS3 : g.SetOf (mixKind prog w) S (inK (ks.take (i + 1))) (i + 1) := by
      refine setk_c hS2 (fun k' => ?_) (by rw [inK_no no]; rfl)
      rw [List.take_add_one, hk]
      by_cases z2 : k' = k
      · subst z2
        rw [show inK (ks.take i ++ (some k').toList) k' = true from inK_iff.mpr (by simp), decide_eq_true rfl, Bool.or_true]
      · rw [decide_eq_false z2, Bool.or_false]
        by_cases z1 : k' ∈ ks.take i
        · rw [inK_iff.mpr z1, inK_iff.mpr (List.mem_append_left _ z1)]
        · rw [inK_no z1, inK_no fun z => (List.mem_append.mp z).elim z1 fun z => z2 (by simpa using z)]
    refine wpAny_pure ⟨plainId_quiet PyProof.Rows.F.plain_set_update_loop _, ih (i + 1) _ (by omega) hlt (W.frame _ s' _ _ st' (Nat.le_succ _) fun b hb' o e => ?_) hS3 fun s'' m' hE => ?_⟩
    · rw [sb.2 b (fun z : b = S => hSf (by rw [← z]; exact hb'))]; exact e
    · refine hR s'' (Moved.trans W.gtrans ((m.mono up).then_heap (Nat.le_succ _) fun b o hb' e => ?_) m') hE
      rw [sb.2 b (fun z : b = S => hb' (by rw [z]; exact List.mem_cons_self))]; exact e
end
section
variable {prog : Program} {w : World} {A : Around} {E : Value → Shared → Prop} {s : Shared}
open PySem.F in
theorem setk_call {l : Addr} {items : Array Value} {ks : List Key} {Q : Value → Shared → Prop} (hh : A.handled = none) (hl : s.heap.IsList l items) (hn : ks.length = items.size) (nd : ks.Nodup)
    (hi : ∀ (i : Nat) (v : Value), items[i]? = some v → ∃ k, ks[i]? = some k ∧ (mixKind prog w).is k v = true ∧ v.scannable = true) (hb : items.size + 1 < scanBound)
    (h : ∀ (g : Heap) (tk : Nat), g.SetOf (mixKind prog w) s.heap.objs.size (inK ks) items.size → (∀ b o, b < s.heap.objs.size → s.heap.get? b = some o → g.get? b = some o) → Q (.ref s.heap.objs.size) { s with heap := g, toks := tk }) :
    wpAny (model prog w) A (call (.type "set") [.ref l]) Q E s := by
  obtain ⟨c, tl, hmro⟩ := called_set.mro
  have hmade := called_set.made
  have hsub := called_set.sub
  refine wpAny_call (codeAny_of_tree ?_); show wpAny _ _ (callAny (.type "set") _) _ _ _
  refine wpAny_pure ⟨Code.quiet_builtin _ (by decide +kernel), codeAny_builtin PySem.F.entry_type_call ?_⟩; rw [Around.under_plain (weight_type_call_type "set" [.ref l] []) rfl]
  have p1 := called_set.notType
  have p2 := called_set.canCreate
  have p3 := typeCall_set_1 (.ref l)
  repeat (any_goals (first | assumption | wp_step))
  refine codeAny_mono (code_set_new_1 (.ref l) (E := E) (Q₁ := fun ob t => ∃ led : Bool, ob = .ref s.heap.objs.size ∧ t = { s with heap := s.heap.push { cls := .type "set", dict := none, data := .set #[] 0 (.fresh 0 0 led) } }) fun led => ⟨led, rfl, rfl⟩) fun r t hr => ?_
  cases r with
  | error e => exact hr
  | ok fl =>
    cases fl with
    | ret ob =>
      obtain ⟨led, rfl, rfl⟩ := hr
      have g1 : (s.heap.push { cls := .type "set", dict := none, data := .set #[] 0 (.fresh 0 0 led) }).get? s.heap.objs.size = some { cls := .type "set", dict := none, data := .set #[] 0 (.fresh 0 0 led) } := Heap.get?_push_size _ rfl
      have g2 : Shared.TypeIs { s with heap := s.heap.push { cls := .type "set", dict := none, data := .set #[] 0 (.fresh 0 0 led) } } (.ref s.heap.objs.size) "set" := ⟨_, g1, rfl⟩
      have q1 := called_set.init.lookup
      have q2 := called_set.init.bind (.ref s.heap.objs.size)
      repeat (any_goals (first | assumption | wp_step))
      refine codeAny_mono (codeAny_call_builtin (R := wants (fun r t => r = .none ∧ ∃ g tk, t = { s with heap := g, toks := tk } ∧ g.SetOf (mixKind prog w) s.heap.objs.size (inK ks) items.size ∧ ∀ b o, b < s.heap.objs.size → s.heap.get? b = some o → g.get? b = some o) E)
        called_set.init.plain entry_set_init (check_set_init_1 g2 ?_)) fun r t hr => ?_
      · obtain ⟨⟨oc, od, odt, osl⟩, hol, hc, nl, hd⟩ := hl
        simp only at hc hd
        subst hc; subst hd
        have g3 : (s.heap.push { cls := .type "set", dict := none, data := .set #[] 0 (.fresh 0 0 led) }).get? l = some { cls := .type "list", dict := od, data := .seq items nl, slots := osl } := Heap.get?_push_of_some _ hol
        have m1 := sub_list_set
        have m2 := sub_list_frozenset
        have m3 : (Value.type "list" == Value.type "dict") = false := by decide
        have g4 : (s.heap.push { cls := .type "set", dict := none, data := .set #[] 0 (.fresh 0 0 led) }).IsList l items := ⟨_, g3, rfl, nl, rfl⟩
        unfold Builtin.«set.__init__» noKeywords Builtin.Frozenset.updateFrom
        generalize hPI : pyIter = PI
        wp_walk
        subst hPI
        refine wpAny_pyIter_list g4 (wpAny_bind (wpAny_runValue ?_))
        have la : l < s.heap.objs.size := Heap.lt_size hol
        have h3 : A.in1.in1.in1.handled = none := by simp [hh]
        have n1 : l ≠ (s.heap.push { cls := .type "set", dict := none, data := .set #[] 0 (.fresh 0 0 led) }).objs.size := by
          rw [Heap.size_push]; exact Nat.ne_of_lt (Nat.lt_succ_of_lt la)
        have n2 : s.heap.objs.size ∉ [(s.heap.push { cls := .type "set", dict := none, data := .set #[] 0 (.fresh 0 0 led) }).objs.size, l] := by
          rw [Heap.size_push]; simp only [List.mem_cons, List.mem_singleton, List.not_mem_nil, or_false, not_or]; exact ⟨Nat.ne_of_lt (Nat.lt_succ_self _), Nat.ne_of_gt la⟩
        refine setk_loop ((Walks.list h3 _ l n1 items).toS) s.heap.objs.size n2 ks hn nd hi hb (items.size - 0) 0 _ (by omega) (Nat.zero_le _) ⟨⟨_, Heap.get?_push_size _ rfl, rfl, rfl⟩, (g4.push _)⟩ ?_ ?_
        · have g5 : ((s.heap.push { cls := .type "set", dict := none, data := .set #[] 0 (.fresh 0 0 led) }).push { cls := .type "list_iterator", data := .fields #[.ref l, .int 0 0] }).get? s.heap.objs.size = some { cls := .type "set", dict := none, data := .set #[] 0 (.fresh 0 0 led) } := Heap.get?_push_of_some _ g1
          exact ⟨_, #[], 0, _, g5, ⟨rfl, rfl, rfl⟩, rfl, (fun e he => by simp at he), (fun k => by rw [inK_no (show k ∉ ks.take 0 from by simp)]; simp), (by decide), (by cases led <;> rfl), rfl⟩
        · rintro ⟨g, gg', gd, gt, go⟩ m hS'
          obtain rfl : gg' = s.gens := m.gens
          obtain rfl : gd = s.drawn := m.drawn
          obtain rfl : go = s.os := m.os
          show wpAny _ _ _ _ _ _
          refine wpAny_pure ?_; show wpAny _ _ (ret Value.none) _ _ _
          refine wpAny_pure ⟨rfl, g, gt, rfl, hS', fun b o hb' e => ?_⟩
          have n3 : b ≠ (s.heap.push { cls := .type "set", dict := none, data := .set #[] 0 (.fresh 0 0 led) }).objs.size := by
            rw [Heap.size_push]; exact Nat.ne_of_lt (Nat.lt_succ_of_lt hb')
          exact m.heap b o (by simp only [List.mem_cons, List.mem_singleton, List.not_mem_nil, or_false, not_or]; exact ⟨Nat.ne_of_lt hb', n3⟩) (Heap.get?_push_of_some _ (Heap.get?_push_of_some _ e))
      · cases r with
        | error e => exact hr
        | ok f2 =>
          cases f2 with
          | ret r =>
            obtain ⟨rfl, g, tk, rfl, hS', hk'⟩ := hr
            repeat (any_goals (first | assumption | wp_step))
            exact h _ _ hS' hk'
          | _ => exact hr.elim
    | _ => exact hr.elim
end
section
variable {X : Cx}
/-- len(set(l)) of unlike texts and numbers -/
def tLenSetK (K : PySem.W.Frag) (ta : TE) : TE := fun σ H Q => ta σ H fun x H1 => ∃ (l : Addr) (ks : List Key), x = V.ref l ∧ SqL K H1 l (ks.map kV) ∧ ks.length < 64 ∧ ks.Nodup ∧ Q (.int ks.length) H1
theorem vals_keys {P : Program} {w : World} : ∀ {ks : List Key} {us : List Value}, Vals (ks.map kV) us → ∀ (i : Nat) (v : Value), us[i]? = some v → ∃ k, ks[i]? = some k ∧ (mixKind P w).is k v = true ∧ v.scannable = true
  | [], _, .nil, i, v, h => by simp at h
  | k :: ks, _, .cons r t, 0, v, h => by
    simp only [List.getElem?_cons_zero, Option.some.injEq] at h
    subst h
    exact ⟨k, rfl, kV_is r, key_scan r⟩
  | k :: ks, _, .cons r t, i + 1, v, h => by
    simp only [List.getElem?_cons_succ] at h ⊢
    exact vals_keys t i v h
theorem pe_lenSetK {a : Expr} {ta : TE} {p p2 q pos : Pos} (hc : X.calm = true) (hg : Gl X "len") (hm : X.mg "len" = none) (hg2 : Gl X "set") (hm2 : X.mg "set" = none) (ha : PE X a ta) (hs : notStar a = true) : PE X (.Call (.Name "len" p) [.Call (.Name "set" p2) [a] [] q] [] pos) (tLenSetK X.K ta) := by
  have na : starEach [a] X.env = (false, eval a X.env) :: starEach [] X.env := by cases a <;> first | rfl | exact absurd hs Bool.false_ne_true
  refine ⟨fun pins s σ H Q I h => ?_⟩
  refine Call_ (ld_blt I hg hm PySem.boot_len (PyProof.Rows.callWith_builtin1 (PyProof.Rows.args_cons (Call_ (ld_blt I hg2 hm2 PyProof.Rows.boot_set ?_)) rfl) rfl rfl))
  refine PyProof.Rows.callWith_type1 (PyProof.Rows.args_cons (thn (ha.run pins s σ H _ I h) fun v s1 ⟨x, H1, I1, r1, l, ks, ex, hq, h1, hnd, q1⟩ => PyProof.Rows.args_nil ?_) na) na rfl
  subst ex
  cases r1
  obtain ⟨us, r, pl, hz⟩ := I1.list hq
  have hl : us.toArray.size = ks.length := by rw [List.size_toArray, ← r.length, List.length_map]
  refine setk_call (I1.ok.hd hc) pl.isList hl.symm hnd (fun i v e => vals_keys r i v (by simpa using e)) (by unfold scanBound; omega) fun h' tk hS hk => ?_
  refine PyProof.Rows.args_nil ?_
  obtain ⟨o, es, ep, t, ho, hex, hd, _, _, _, hf, hn⟩ := hS
  have I2 : Inv X pins σ H1 { s1 with heap := h', toks := tk } := I1.kept fun b o e => hk b o (Heap.lt_size e) e
  exact call_len_set ho hex hd hf (by rw [hn] <;> omega) ⟨.int ks.length, H1, I2.tok _, ⟨_, by rw [hn, hl]⟩, q1⟩
end
end WR

set_option Elab.async false
set_option linter.all false
set_option maxRecDepth 100000
set_option maxHeartbeats 1000000
/-! repr of an own instance by its own __repr__; {x!r} of data -/
namespace WR
open PySem PySem.Spec PyProof.Rows L2
section
variable {prog : Program} {w : World} {A : Around} {E : Value → Shared → Prop} {s : Shared} {K : PySem.W.Frag} {x C f : Addr} {ox od : Obj}
open PySem.W PySem.P in
theorem repr_k {Q : Value → Shared → Prop} (hu : A.in1.units < cLine) (X : K.In s.heap) (I : InstAt s.heap x ox C od) (hr : findIn K (.ref C) "__repr__" = some (some (.ref f))) (hf : isFn K (.ref f) = true)
    (h : wpAny (model prog w) A.in1 (call (.ref f) [.ref x]) (StrBack Q) E s) : wpAny (model prog w) A (call (.builtin "repr") [.ref x]) Q E s := by
  refine Calls.call_function_entry F.kind_repr F.plain_repr F.entry_repr (F.args_repr1 _) ?_
  unfold Builtin.«repr»
  refine wpAny_bind (m := oneArg "repr" _) (wpAny_pure ?_)
  refine wpAny_bind (wpAny_cRoomFor hu ?_)
  refine wpAny_bind (wpAny_bind (I.type.here ((looks_findIn X hr).here ?_)))
  show wpAny _ _ (if (some (Value.ref f)).isNone = true then _ else _) _ _ _
  rw [if_neg (by simp)]
  refine wpAny_bind (m := callSpecialIfBound? (.ref x) (Str.ofString "__repr__") _) (ifBound_K X I hr hf (wpAny_mono h (fun r s' hq => ?_) fun _ _ y => y))
  cases r <;> first | exact hq.elim | skip
  refine wpAny_bind (wpAny_isInstance (T := "str") (b := true) (typeIs_str _ _ _) isSubtype_str_str ?_)
  first
    | exact wpAny_pure ⟨_, rfl, hq⟩
    | (rw [if_pos rfl]; exact wpAny_pure ⟨_, rfl, hq⟩)
    | (simp only [if_true]; exact wpAny_pure ⟨_, rfl, hq⟩)
end
/-- repr(x): of data, or by an own __repr__ -/
def bReprG (g : G) : RC := fun xs H Q => match xs with
  | [x] => (match insOf H x with
    | some (_, C, _) => spc g "__repr__" C x [] H fun v H' => match v with
        | .str y => Q (.str y) H'
        | _ => False
    | none => bRepr g.K xs H Q)
  | _ => False
/-- {x!r} of what is data -/
def cFmtR (K : PySem.W.Frag) (te : TE) : TE := fun σ H Q => te σ H fun x H1 => ∃ a d, x = .ref a ∧ Dx K H1 x d ∧ d.showable = true ∧ d.depth ≤ 40 ∧ d.shown.length ≤ sizeLine ∧ Q (.str d.shown) H1
section
variable {g : G} {lev : Nat} {X : Cx} {N : List Str} {sc : Scope} {W : WX}
theorem room_in1 {k : Nat} {A : Around} (r : Room (k + 1) A) : Room k A.in1 :=
  ⟨r.hd, by have := r.dp; show A.depth + 3 * k + 5 < _; omega, by have := r.un; show A.units + 1 + 16 * k + 200 < _; omega⟩
theorem b_reprG (c : COk g lev X N sc W) : CallR X (.builtin "repr") (bReprG g) := by
  intro pins s σ H xs us Q I r h
  unfold bReprG at h
  split at h
  · rename_i x
    split at h
    · rename_i a C fs e
      obtain ⟨dx, rfl, ea⟩ := insOf_ok e
      obtain ⟨u, rfl, ru⟩ := vals1 r
      cases ru
      obtain ⟨fa, h1, h2, cl, run⟩ := spc_get (us := []) c h
      obtain ⟨mA, J, _⟩ := ins_get I.hok ea
      obtain ⟨od, J, _⟩ := J.look
      refine repr_k (by have := c.room.un; show X.A.units + 1 < _; omega) I.kIn J h1 h2 (wpAny_mono (run (room_in1 c.room) c.gd rfl I .nil) (fun u s' z => ?_) fun _ _ z => z)
      obtain ⟨v, H', I', rv, q⟩ := z
      cases v <;> first | exact q.elim | skip
      obtain ⟨t, rfl⟩ := rv
      exact ⟨.str _, H', I', ⟨_, rfl⟩, q⟩
    · rw [← c.hK] at h
      exact b_repr c.gd c.hu (by rw [c.hK]; exact c.gok.sys) pins s σ H _ us Q I r h
  · exact h.elim
theorem pe_fmtRD {e : Expr} {te : TE} {pos : Pos} (gd : X.A.guards = some []) (hu : X.A.units + 64 < cLine) (hs : sysB X.K = true) (he : PE X e te) : PE X (.FormattedValue e 114 none pos) (cFmtR X.K te) := by
  refine ⟨fun pins s σ H Q I h => ?_⟩
  refine wpAny_FormattedValue_repr (thn (he.run pins s σ H _ I h) fun v s1 ⟨x, H1, I1, r1, a, d, ex, hx, h1, h2, h3, q⟩ => ?_)
  subst ex
  cases r1
  obtain ⟨as, rd, ns⟩ := Dx.reads I1 hs d _ _ hx rfl
  refine pyReprObj_of_reads rd h1 (fun _ => ns) gd (by omega) (fun _ _ e => e) (fun h' u tk hk => ?_) h3
  have J : Inv X pins σ H1 { s1 with heap := h', toks := tk } := I1.kept hk
  exact wpAny_formatField_str ⟨.str _, H1, J, ⟨_, rfl⟩, q⟩ ⟨.str _, H1, J.tok _, ⟨_, rfl⟩, q⟩ h3
end
end WR

set_option Elab.async false
set_option linter.all false
set_option maxRecDepth 100000
set_option maxHeartbeats 4000000
/-! enumerate of lists, tuples and texts, from any number on -/
namespace WR
open PySem PySem.Spec PyProof.Rows L2
theorem enI_item {X : Cx} {pins : List (Addr × Obj)} {σ : St} {H : Hp} {s : Shared} {E : Value → Shared → Prop} {e it : Addr} {fp : List Addr} {n i : Nat} {c : Int} {old : Value} {P : Nat → Value → Prop} {S : Nat → Heap → Prop} {x : V} {elts : List Expr} {kk : Nat} {tpos : Pos}
    (I : Inv X pins σ H s) (D : Draws X.prog X.w X.A.in1 it fp n P S) (he : IsEnum s.heap e it c old) (st : S i s.heap) (lt : i < n) (hne : e ≠ it) (hef : e ∉ fp) (hil : it < s.heap.objs.size) (hf : ∀ b ∈ [e, it], FpOk X pins H b) (rel : ∀ u, P i u → RelV x u) :
    wpAny (model X.prog X.w) X.A (pyNext (.ref e)) (fun r s1 => ∃ u, r = some u ∧ wpAny (model X.prog X.w) X.A (letOwnedTupleGo (.Tuple elts kk tpos) (.ref e) u) (fun _ s2 => ∃ v H', Inv X pins σ H' s2 ∧ RelV v u ∧ (∃ T, v = .ref T ∧ H T = none ∧ H' = upd H T (.tup [.int c, x])) ∧ (∃ old, IsEnum s2.heap e it (c + 1) old) ∧ S (i + 1) s2.heap ∧ ∀ b ∈ [e, it], H' b = none) E s1) E s := by
  have hel : e < s.heap.objs.size := Heap.lt_size he
  refine wpAny_pyNext_enum_itemC D he st lt hne hef fun u h' tk hP ho hst hT hsz hk => ?_
  refine ⟨_, rfl, wpAny_letOwnedTupleGo_enum (s := { s with heap := h', toks := tk + 1 }) ho fun h'' he' sb => ?_⟩
  have hT2 := (sb.2 _ (Nat.ne_of_gt hel)).trans hT
  have new : ObjOk X.prog X.w (upd H s.heap.objs.size (.tup [.int c, x])) h'' s.heap.objs.size (.tup [.int c, x]) := ⟨by show 2 ≤ sizeLine; decide, [.int c tk, u], .cons ⟨_, rfl⟩ (.cons (rel u hP) .nil), ⟨_, hT2, rfl, _, rfl⟩⟩
  have J : Inv X pins σ (upd H s.heap.objs.size (.tup [.int c, x])) { s with heap := h'', toks := tk + 1 } :=
    I.turnedNew (ch := [e, it]) (fun b ob n z => (sb.2 b (fun y => n (by simp [y]))).trans (hk b ob (fun y => n (by simp [y])) (fun y => n (by simp [y])) z)) hf (Nat.le_refl _) new
  refine ⟨.ref s.heap.objs.size, _, J, rfl, ⟨_, rfl, I.hok.fresh (Nat.le_refl _), rfl⟩, ⟨u, he'⟩, D.frame _ _ _ hst fun b m o z => ?_, fun b m => ?_⟩
  · exact (sb.2 b (fun y => hef (y ▸ m))).trans z
  · have lt : b < s.heap.objs.size := by
      have q : b = e ∨ b = it := by simpa using m
      rcases q with q | q
      · rw [q]; exact hel
      · rw [q]; exact hil
    rw [upd_ne (Nat.ne_of_lt lt)]
    exact (hf b m).1
theorem enI_obj {h : Heap} {e it : Addr} {c : Int} {old : Value} (he : IsEnum h e it c old) {o : Obj} {vs : Array Value} (ho : h.get? it = some o) (hd : o.data = .fields vs) : ∀ b ∈ [e, it], ∃ o, h.get? b = some o ∧ ∀ v, o.data ≠ .cell v := by
  intro b m
  have q : b = e ∨ b = it := by simpa using m
  rcases q with q | q
  · rw [q]; exact ⟨_, he, fun v z => nomatch z⟩
  · rw [q]; exact ⟨o, ho, fun v z => by rw [hd] at z; cases z⟩
/-- the items of the list or tuple at a, counted from k -/
def IteK (sq : Hp → List V → Prop) (k : Int) : It :=
  ⟨fun i H => ∃ (xs : List V) (x : V), sq H xs ∧ xs[i]? = some x, fun i H v H' => ∃ T x, v = .ref T ∧ H T = none ∧ H' = upd H T (.tup [.int (k + (i : Nat)), x]) ∧ ∀ xs, sq H xs → xs[i]? = some x, fun i H => ∃ xs : List V, sq H xs ∧ xs.length = i⟩
/-- the signs of a text, counted from k -/
def IteS (x : Str) (k : Int) : It :=
  ⟨fun i _ => i < x.cps.size, fun i H v H' => ∃ T c, v = .ref T ∧ H T = none ∧ H' = upd H T (.tup [.int (k + (i : Nat)), .str ⟨#[c]⟩]) ∧ x.cps[i]? = some c, fun i _ => x.cps.size = i⟩
section
variable {P : Program} {w : World} {K : PySem.W.Frag} {elts : List Expr} {kk : Nat} {tpos : Pos}
theorem turn_enL (k : Int) (a e it : Addr) : Turn P w K (.Tuple elts kk tpos) (IteK (fun H xs => SqL K H a xs) k) [e, it] e (fun i h => (∃ old, IsEnum h e it (k + (i : Nat)) old) ∧ h.IsListIter it a i ∧ e ≠ it ∧ e ≠ a ∧ a ≠ it) where
  mem := by simp
  obj := fun i h st => by
    obtain ⟨⟨old, he⟩, ⟨o, ho, _, hd⟩, _⟩ := st
    exact enI_obj he ho hd
  keep := fun i h h' st m => let ⟨⟨old, he⟩, hi, r⟩ := st; ⟨⟨old, m e (by simp) _ he⟩, hi.at fun o q => m it (by simp) o q, r⟩
  item := by
    rintro X rfl rfl rfl hc i pins s σ H E I hf ⟨⟨old, he⟩, hit, hne, hea, hai⟩ ⟨xs, x, hq, hx⟩
    obtain ⟨its, rv, p, hz⟩ := I.list hq
    obtain ⟨u, hu, ru⟩ := rv.get hx
    have lt : i < its.toArray.size := by
      have := (List.getElem?_eq_some_iff.mp hu).1
      simpa using this
    have hil : it < s.heap.objs.size := by obtain ⟨_, q, _⟩ := hit; exact Heap.lt_size q
    refine thn (enI_item (elts := elts) (kk := kk) (tpos := tpos) (x := x) I (Draws.list (A := X.A.in1) (I.ok.hd hc) it a hai its.toArray) he ⟨hit, p.isList⟩ lt hne (by simp [hea, hne]) hil hf fun u' hP => ?_) fun r s1 z => ?_
    · have z : its[i]? = some u' := by simpa using hP
      rw [hu] at z; cases z
      exact ru
    · obtain ⟨u', hr, z⟩ := z
      refine ⟨u', hr, thn z fun _ s2 y => ?_⟩
      obtain ⟨v, H', J, rv', ⟨T, e1, e2, e3⟩, ho, hs, hn⟩ := y
      refine ⟨v, H', J, rv', ⟨T, x, e1, e2, e3, fun ys hy => by rw [I.list_inj hy hq]; exact hx⟩, ⟨?_, hs.1, hne, hea, hai⟩, hn⟩
      rw [show k + ((i + 1 : Nat) : Int) = k + (i : Nat) + 1 by omega]
      exact ho
  done := by
    rintro X rfl rfl rfl hc i pins s σ H E I hf ⟨⟨old, he⟩, hit, hne, hea, hai⟩ ⟨xs, hq, hx⟩
    obtain ⟨its, rv, p, hz⟩ := I.list hq
    obtain ⟨n0, n1, n2, n3, n4, n5⟩ := hf it (by simp)
    have len : its.toArray.size = i := by have := rv.length; simp; omega
    exact wpAny_pyNext_enum_endD (Draws.list (A := X.A.in1) (I.ok.hd hc) it a hai its.toArray) he ⟨by rw [len]; exact hit, p.isList⟩ fun h' eb => ⟨rfl, I.turned (t' := s.toks) (fun b o n q => eb b o n q) n0 n1 n3 n4 n5⟩
  self := fun A i s Q E st h => let ⟨⟨_, he⟩, _⟩ := st; wpAny_pyIter_enum he h
theorem turn_enT (k : Int) (a e it : Addr) : Turn P w K (.Tuple elts kk tpos) (IteK (fun H xs => SqT K H a xs) k) [e, it] e (fun i h => (∃ old, IsEnum h e it (k + (i : Nat)) old) ∧ h.IsTupleIter it a i ∧ e ≠ it ∧ e ≠ a ∧ a ≠ it) where
  mem := by simp
  obj := fun i h st => by
    obtain ⟨⟨old, he⟩, ⟨o, ho, _, hd⟩, _⟩ := st
    exact enI_obj he ho hd
  keep := fun i h h' st m => let ⟨⟨old, he⟩, hi, r⟩ := st; ⟨⟨old, m e (by simp) _ he⟩, hi.at fun o q => m it (by simp) o q, r⟩
  item := by
    rintro X rfl rfl rfl hc i pins s σ H E I hf ⟨⟨old, he⟩, hit, hne, hea, hai⟩ ⟨xs, x, hq, hx⟩
    obtain ⟨its, rv, p, hz⟩ := I.tuple hq
    obtain ⟨u, hu, ru⟩ := rv.get hx
    have lt : i < its.toArray.size := by
      have := (List.getElem?_eq_some_iff.mp hu).1
      simpa using this
    have hil : it < s.heap.objs.size := by obtain ⟨_, q, _⟩ := hit; exact Heap.lt_size q
    refine thn (enI_item (elts := elts) (kk := kk) (tpos := tpos) (x := x) I (Draws.tuple (A := X.A.in1) (I.ok.hd hc) it a hai its.toArray) he ⟨hit, p⟩ lt hne (by simp [hea, hne]) hil hf fun u' hP => ?_) fun r s1 z => ?_
    · have z : its[i]? = some u' := by simpa using hP
      rw [hu] at z; cases z
      exact ru
    · obtain ⟨u', hr, z⟩ := z
      refine ⟨u', hr, thn z fun _ s2 y => ?_⟩
      obtain ⟨v, H', J, rv', ⟨T, e1, e2, e3⟩, ho, hs, hn⟩ := y
      refine ⟨v, H', J, rv', ⟨T, x, e1, e2, e3, fun ys hy => by rw [I.tuple_inj hy hq]; exact hx⟩, ⟨?_, hs.1, hne, hea, hai⟩, hn⟩
      rw [show k + ((i + 1 : Nat) : Int) = k + (i : Nat) + 1 by omega]
      exact ho
  done := by
    rintro X rfl rfl rfl hc i pins s σ H E I hf ⟨⟨old, he⟩, hit, hne, hea, hai⟩ ⟨xs, hq, hx⟩
    obtain ⟨its, rv, p, hz⟩ := I.tuple hq
    obtain ⟨n0, n1, n2, n3, n4, n5⟩ := hf it (by simp)
    have len : its.toArray.size = i := by have := rv.length; simp; omega
    exact wpAny_pyNext_enum_endD (Draws.tuple (A := X.A.in1) (I.ok.hd hc) it a hai its.toArray) he ⟨by rw [len]; exact hit, p⟩ fun h' eb => ⟨rfl, I.turned (t' := s.toks) (fun b o n q => eb b o n q) n0 n1 n3 n4 n5⟩
  self := fun A i s Q E st h => let ⟨⟨_, he⟩, _⟩ := st; wpAny_pyIter_enum he h
theorem turn_enS (k : Int) (x : Str) (t : Tok) (e it : Addr) (ty : String) (hty : ty = "str_ascii_iterator" ∨ ty = "str_iterator") : Turn P w K (.Tuple elts kk tpos) (IteS x k) [e, it] e (fun i h => (∃ old, IsEnum h e it (k + (i : Nat)) old) ∧ h.IsStrIter it ty x t i ∧ e ≠ it) where
  mem := by simp
  obj := fun i h st => by
    obtain ⟨⟨old, he⟩, ⟨o, ho, _, hd⟩, _⟩ := st
    exact enI_obj he ho hd
  keep := fun i h h' st m => let ⟨⟨old, he⟩, ⟨o, ho, y⟩, r⟩ := st; ⟨⟨old, m e (by simp) _ he⟩, ⟨o, m it (by simp) _ ho, y⟩, r⟩
  item := by
    rintro X rfl rfl rfl hc i pins s σ H E I hf ⟨⟨old, he⟩, hit, hne⟩ lt
    have lt : i < x.cps.size := lt
    have hil : it < s.heap.objs.size := by obtain ⟨_, q, _⟩ := hit; exact Heap.lt_size q
    have hx : x.cps[i]? = some x.cps[i] := Array.getElem?_eq_getElem lt
    have D : Draws X.prog X.w X.A.in1 it [it] x.cps.size (fun i v => ∃ c u, x.cps[i]? = some c ∧ v = .str ⟨#[c]⟩ u) (fun i h => h.IsStrIter it ty x t i) := by
      rcases hty with z | z
      · subst z; exact Draws.strAscii (A := X.A.in1) (I.ok.hd hc) it x t
      · subst z; exact Draws.strWide (A := X.A.in1) (I.ok.hd hc) it x t
    refine thn (enI_item (elts := elts) (kk := kk) (tpos := tpos) (x := .str ⟨#[x.cps[i]]⟩) I D he hit lt hne (by simpa using hne) hil hf fun u' hP => ?_) fun r s1 z => ?_
    · obtain ⟨c, u, e1, rfl⟩ := hP
      rw [hx] at e1; cases e1
      exact ⟨_, rfl⟩
    · obtain ⟨u', hr, z⟩ := z
      refine ⟨u', hr, thn z fun _ s2 y => ?_⟩
      obtain ⟨v, H', J, rv', ⟨T, e1, e2, e3⟩, ho, hs, hn⟩ := y
      refine ⟨v, H', J, rv', ⟨T, _, e1, e2, e3, hx⟩, ⟨?_, hs, hne⟩, hn⟩
      rw [show k + ((i + 1 : Nat) : Int) = k + (i : Nat) + 1 by omega]
      exact ho
  done := by
    rintro X rfl rfl rfl hc i pins s σ H E I hf ⟨⟨old, he⟩, hit, hne⟩ len
    have len : x.cps.size = i := len
    obtain ⟨n0, n1, n2, n3, n4, n5⟩ := hf it (by simp)
    have D : Draws X.prog X.w X.A.in1 it [it] x.cps.size (fun i v => ∃ c u, x.cps[i]? = some c ∧ v = .str ⟨#[c]⟩ u) (fun i h => h.IsStrIter it ty x t i) := by
      rcases hty with z | z
      · subst z; exact Draws.strAscii (A := X.A.in1) (I.ok.hd hc) it x t
      · subst z; exact Draws.strWide (A := X.A.in1) (I.ok.hd hc) it x t
    exact wpAny_pyNext_enum_endD D he (by rw [len]; exact hit) fun h' eb => ⟨rfl, I.turned (t' := s.toks) (fun b o n q => eb b o n q) n0 n1 n3 n4 n5⟩
  self := fun A i s Q E st h => let ⟨⟨_, he⟩, _⟩ := st; wpAny_pyIter_enum he h
end
/-- what is enumerated, from k on -/
def enOn (K : PySem.W.Frag) (H : Hp) (k : Int) (R : It → Hp → Prop) (x : V) : Prop := match x with
  | .ref a => (match look K H a with
    | some (.lst _) => R (IteK (fun H xs => SqL K H a xs) k) H
    | some (.tup _) => R (IteK (fun H xs => SqT K H a xs) k) H
    | _ => False)
  | .str z => R (IteS z k) H
  | _ => False
section
variable {X : Cx} {pins : List (Addr × Obj)} {σ : St} {H : Hp} {s : Shared}
theorem enI_new {elts : List Expr} {kk : Nat} {tpos : Pos} {R : It → Hp → Prop} {E : Value → Shared → Prop} {x : V} {u : Value} {k : Int} {C : (Value → Shared → Prop) → Prop} (I : Inv X pins σ H s) (ru : RelV x u) (q : enOn X.K H k R x)
    (call_ : ∀ {o : Obj} {B : Heap → Prop}, Begins u o B → B s.heap → (∀ h', IsEnum h' (s.heap.objs.size + 1) s.heap.objs.size k .none → h'.get? s.heap.objs.size = some o → h'.objs.size = s.heap.objs.size + 2 → (∀ b o, s.heap.get? b = some o → h'.get? b = some o) →
      wpAny (model X.prog X.w) X.A (pyIter (.ref (s.heap.objs.size + 1))) (PIE X pins σ (.Tuple elts kk tpos) R) E { s with heap := h' }) → C (fun v s1 => wpAny (model X.prog X.w) X.A (pyIter v) (PIE X pins σ (.Tuple elts kk tpos) R) E s1)) :
    C (fun v s1 => wpAny (model X.prog X.w) X.A (pyIter v) (PIE X pins σ (.Tuple elts kk tpos) R) E s1) := by
  have fps : ∀ b ∈ [s.heap.objs.size + 1, s.heap.objs.size], FpOk X pins H b := fun b m => by
    have q : b = s.heap.objs.size + 1 ∨ b = s.heap.objs.size := by simpa using m
    have le : s.heap.objs.size ≤ b := by
      rcases q with q | q
      · rw [q]; exact Nat.le_add_right _ _
      · rw [q]; exact Nat.le_refl _
    exact I.fpOk le (I.hok.fresh le)
  have k0 : k + ((0 : Nat) : Int) = k := by simp
  unfold enOn at q
  split at q
  · rename_i a
    obtain rfl : u = Value.ref a := ru
    split at q
    · rename_i xs e
      obtain ⟨its, rv, p, hz⟩ := I.list (look_lst e)
      have lt : a < s.heap.objs.size := p.lt
      refine call_ (begins_list a its.toArray) p.isList fun h' he ho hsz hk => wpAny_pyIter_enum he ?_
      exact ⟨_, [s.heap.objs.size + 1, s.heap.objs.size], _, _, H, rfl, I.kept (t' := s.toks) hk, turn_enL k a _ _, ⟨⟨.none, by rw [k0]; exact he⟩, ⟨_, ho, rfl, rfl⟩, Nat.succ_ne_self _, Nat.ne_of_gt (Nat.lt_succ_of_lt lt), Nat.ne_of_lt lt⟩, fps, q⟩
    · rename_i xs e
      obtain ⟨its, rv, p, hz⟩ := I.tuple (look_tup e)
      have lt : a < s.heap.objs.size := by obtain ⟨_, q, _⟩ := p; exact Heap.lt_size q
      refine call_ (begins_tuple a its.toArray) p fun h' he ho hsz hk => wpAny_pyIter_enum he ?_
      exact ⟨_, [s.heap.objs.size + 1, s.heap.objs.size], _, _, H, rfl, I.kept (t' := s.toks) hk, turn_enT k a _ _, ⟨⟨.none, by rw [k0]; exact he⟩, ⟨_, ho, rfl, rfl⟩, Nat.succ_ne_self _, Nat.ne_of_gt (Nat.lt_succ_of_lt lt), Nat.ne_of_lt lt⟩, fps, q⟩
    · exact q.elim
  · rename_i z
    obtain ⟨t, rfl⟩ := ru
    refine call_ (begins_text z t) trivial fun h' he ho hsz hk => wpAny_pyIter_enum he ?_
    have hty : strIterType z = "str_ascii_iterator" ∨ strIterType z = "str_iterator" := by
      unfold strIterType
      split
      · exact .inl rfl
      · exact .inr rfl
    exact ⟨_, [s.heap.objs.size + 1, s.heap.objs.size], _, _, H, rfl, I.kept (t' := s.toks) hk, turn_enS k z t _ _ _ hty, ⟨⟨.none, by rw [k0]; exact he⟩, ⟨_, ho, rfl, rfl⟩, Nat.succ_ne_self _⟩, fps, q⟩
  · exact q.elim
theorem enum_begins0 {prog : Program} {w : World} {A : Around} {E : Value → Shared → Prop} {s : Shared} {v : Value} {o : Obj} {B : Heap → Prop} {Q : Value → Shared → Prop} (hB : Begins v o B) (h1 : B s.heap)
    (h : ∀ h', IsEnum h' (s.heap.objs.size + 1) s.heap.objs.size 0 .none → h'.get? s.heap.objs.size = some o → h'.objs.size = s.heap.objs.size + 2 → (∀ b o, s.heap.get? b = some o → h'.get? b = some o) → Q (.ref (s.heap.objs.size + 1)) { s with heap := h' }) :
    wpAny (model prog w) A (call (.type "enumerate") [v]) Q E s := by
  refine callType_new F.called_enumerate (by decide) (F.typeCall_enumerate_1 _) (F.newCall_enumerate_1 _) (fun obj => F.args_object_init_2 obj _) F.entry_enumerate_new (meets_enumerate_newB1 hB) ⟨h1, ?_⟩
  have hz : (s.heap.push o).objs.size = s.heap.objs.size + 1 := Heap.size_push ..
  show _ ∧ _
  rw [hz]
  have he : IsEnum ((s.heap.push o).push { cls := .type "enumerate", data := .fields #[.none, .bool false, .ref s.heap.objs.size, rawInt 0, .none, .none] }) (s.heap.objs.size + 1) s.heap.objs.size 0 .none := by
    have z := Heap.get?_push_size (s.heap.push o) (o := { cls := .type "enumerate", data := .fields #[.none, .bool false, .ref s.heap.objs.size, rawInt 0, .none, .none] }) rfl
    rw [hz] at z
    exact z
  refine ⟨⟨_, he, rfl⟩, h _ he (Heap.get?_push_of_some _ (Heap.get?_push_size _ hB.free)) (by rw [Heap.size_push, hz]) fun b o x => Heap.get?_push_of_some _ (Heap.get?_push_of_some _ x)⟩
def iEnumC (K : PySem.W.Frag) (ta : TA) : TI := fun σ H R => ta σ H fun vs H1 => ∃ x, vs = [x] ∧ ((∃ a xs, x = .ref a ∧ SqL K H1 a xs ∧ R (Ite K a) H1) ∨ (∃ a xs, x = .ref a ∧ SqT K H1 a xs ∧ R (IteT K a) H1) ∨ ∃ z, x = .str z ∧ R (IteS z 0) H1)
theorem pi_enumC {e : Expr} {ta : TA} {p pos tpos : Pos} {elts : List Expr} {kk : Nat} (hg : Gl X "enumerate") (hm : X.mg "enumerate" = none) (ha : PA X [e] ta) (hs : starEach [e] X.env = [(false, eval e X.env)]) :
    PI X (.Tuple elts kk tpos) (.Call (.Name "enumerate" p) [e] [] pos) (iEnumC X.K ta) := by
  refine ⟨fun pins s σ H R I h => ?_⟩
  refine Call_ (ld_blt I hg hm boot_enumerate (PyProof.Rows.callWith_type1 (thn (ha.run pos pins s σ H _ I h) fun us s1 ⟨vs, H1, I1, r1, x, ex, q1⟩ => ?_) hs rfl))
  subst ex
  obtain ⟨u, rfl, ru⟩ := vals1 r1
  have fps : ∀ b ∈ [s1.heap.objs.size + 1, s1.heap.objs.size], FpOk X pins H1 b := fun b m => by
    have q : b = s1.heap.objs.size + 1 ∨ b = s1.heap.objs.size := by simpa using m
    have le : s1.heap.objs.size ≤ b := by
      rcases q with q | q
      · rw [q]; exact Nat.le_add_right _ _
      · rw [q]; exact Nat.le_refl _
    exact I1.fpOk le (I1.hok.fresh le)
  rcases q1 with ⟨a, xs, rfl, hq, q⟩ | ⟨a, xs, rfl, hq, q⟩ | ⟨z, rfl, q⟩
  · obtain rfl : u = Value.ref a := ru
    obtain ⟨its, rv, p', hz⟩ := I1.list hq
    refine call_enumerate_list p'.isList fun h' he hit hsz hk => wpAny_pyIter_enum he ?_
    exact ⟨_, [s1.heap.objs.size + 1, s1.heap.objs.size], _, _, H1, rfl, I1.kept (t' := s1.toks) hk, turn_enum a _ _, ⟨⟨.none, he⟩, hit, Nat.succ_ne_self _⟩, fps, q⟩
  · obtain rfl : u = Value.ref a := ru
    obtain ⟨its, rv, p', hz⟩ := I1.tuple hq
    have lt : a < s1.heap.objs.size := by obtain ⟨_, q, _⟩ := p'; exact Heap.lt_size q
    refine call_enumerate_tuple p' fun h' he hit hsz hk => wpAny_pyIter_enum he ?_
    exact ⟨_, [s1.heap.objs.size + 1, s1.heap.objs.size], _, _, H1, rfl, I1.kept (t' := s1.toks) hk, turn_enumT a _ _, ⟨⟨.none, he⟩, hit, Nat.succ_ne_self _, Nat.ne_of_gt (Nat.lt_succ_of_lt lt), Nat.ne_of_lt lt⟩, fps, q⟩
  · refine enI_new (C := fun Q => wpAny (model X.prog X.w) X.A (call (.type "enumerate") [u]) Q X.xe s1) (k := 0) I1 ru (show enOn X.K H1 0 R (.str z) from q) fun hB h1 hh => enum_begins0 hB h1 hh
/-- .. counted from a number that is told -/
def cEnumK (K : PySem.W.Frag) (ta tk : TA) : TI := fun σ H R => ta σ H fun vs H1 => tk σ H1 fun ws H2 => match vs, ws with
  | [x], [.int k] => -(2 ^ 62) ≤ k ∧ k < 2 ^ 62 ∧ enOn K H2 k R x
  | _, _ => False
theorem pi_enumK {e : Expr} {ta tk : TA} {p pos tpos : Pos} {elts : List Expr} {kk : Nat} {kws : List Keyword} (hg : Gl X "enumerate") (hm : X.mg "enumerate" = none) (hstar : notStar e = true) (hkw : kwNames kws = some [Str.ofString "start"]) (ha : PA X [e] ta) (hw : PK X kws tk) :
    PI X (.Tuple elts kk tpos) (.Call (.Name "enumerate" p) [e] kws pos) (cEnumK X.K ta tk) := by
  refine ⟨fun pins s σ H R I h => ?_⟩
  refine wpAny_Call_Name_kw (ld_blt I hg hm boot_enumerate ?_)
  refine args_of (first := []) (R := fun vs ws H2 => match vs, ws with
    | [x], [.int k] => -(2 ^ 62) ≤ k ∧ k < 2 ^ 62 ∧ enOn X.K H2 k R x
    | _, _ => False) keeps_ty (fun z => nomatch z) (by rw [List.all_cons, hstar]; rfl) hkw ha hw I h fun vs zs us ws s2 H2 I2 r rz q => ?_
  try dsimp only at q
  split at q
  · rename_i x k
    obtain ⟨u, rfl, ru⟩ := vals1 r
    obtain ⟨u2, rfl, ru2⟩ := vals1 rz
    obtain ⟨t, rfl⟩ := ru2
    exact enI_new (C := fun Q => wpAny (model X.prog X.w) X.A (call (.type "enumerate") [u] [(Str.ofString "start", .int k t)]) Q X.xe s2) I2 ru q.2.2 fun hB h1 hh => enum_begins_start hB h1 (by omega) (by omega) hh
  · exact q.elim
end
end WR

set_option Elab.async false
set_option linter.all false
set_option maxRecDepth 100000
set_option maxHeartbeats 4000000
namespace WR
open PySem PySem.Spec PyProof.Rows L2

/-! ## 14. the translation of expressions -/
abbrev OE := Option (WX → TE)
abbrev FE := List Str → Scope → Expr → OE
abbrev FT := List Str → Scope → Expr → Option (WX → TT)

def opR (K : PySem.W.Frag) : Operator → Option R2
  | .Add => some (oAdd K)
  | .Sub => some oSub
  | .Mult => some oMul
  | .FloorDiv => some oFdiv
  | .Mod => some oMod
  | .Pow => some oPow
  | .LShift => some oShl
  | .BitOr => some oBor
  | _ => none
def cmpR (g : G) : CmpOp → Option R2
  | .Lt => some (oLtK g.K)
  | .LtE => some oLe
  | .Gt => some (oGtK g.K)
  | .GtE => some (oGeK g.K)
  | .Eq => some (oEqG g)
  | .NotEq => some (oNeG g)
  | .In => some (oIn g.K false)
  | .NotIn => some (oIn g.K true)
  | .Is => some oIs
  | .IsNot => some oIsNot
def notSet : Expr → Bool
  | .Set _ _ _ => false
  | _ => true
theorem notSet_b {op : CmpOp} {e : Expr} (h : notSet e = true) : behindInMarks op e = false := by
  cases e <;> first | rfl | exact absurd h Bool.false_ne_true
theorem notSet_l {o o' : CmpOp} {b e : Expr} (h : notSet e = true) : lastMarks [o, o'] [b, e] = false := notSet_b (op := o') h

def tArgs (f : Expr → OE) : List Expr → Option (WX → TA)
  | [] => some fun _ => tNil
  | e :: es => if notStar e = true then match f e, tArgs f es with
      | some te, some t => some fun W => tCons (te W) (t W)
      | _, _ => none
    else none
def tKws (f : Expr → OE) : List Keyword → Option (WX → TA)
  | [] => some fun _ => tNil
  | k :: ks => match f k.value, tKws f ks with
      | some te, some t => some fun W => tCons (te W) (t W)
      | _, _ => none
def cAnd (K : PySem.W.Frag) (ta tb : TE) : TE := fun σ H Q => ta σ H fun x H1 => match oTru K x H1 with
  | some true => tb σ H1 Q
  | some false => Q x H1
  | none => False
def cOr (K : PySem.W.Frag) (ta tb : TE) : TE := fun σ H Q => ta σ H fun x H1 => match oTru K x H1 with
  | some true => Q x H1
  | some false => tb σ H1 Q
  | none => False
def cNot (K : PySem.W.Frag) (ta : TE) : TE := fun σ H Q => ta σ H fun x H1 => match oTru K x H1 with
  | some b => Q (.bl (!b)) H1
  | none => False
def cTest (t : TE) : TT := fun σ H Q => t σ H fun x H1 => match x with
  | .bl k => Q k H1
  | _ => False
def tBool (K : PySem.W.Frag) (f : Expr → OE) (isAnd : Bool) : List Expr → OE
  | [] => none
  | [e] => f e
  | e :: es => match f e, tBool K f isAnd es with
    | some ta, some tb => some fun W => if isAnd then cAnd K (ta W) (tb W) else cOr K (ta W) (tb W)
    | _, _ => none
def tBoolT (f : Expr → Option (WX → TT)) (isAnd : Bool) : List Expr → Option (WX → TT)
  | [] => none
  | [e] => f e
  | e :: es => match f e, tBoolT f isAnd es with
    | some ta, some tb => some fun W => if isAnd then tAnd (ta W) (tb W) else tOr (ta W) (tb W)
    | _, _ => none
/-- comparisons a op b op' c -/
def cChain (r r' : R2) (ta tb tc : TE) : TE := fun σ H Q => ta σ H fun x H1 => tb σ H1 fun y H2 => r x y H2 fun z H3 => match z with
  | .bl true => tc σ H3 fun w' H4 => r' y w' H4 Q
  | .bl false => Q (.bl false) H3
  | _ => False
def cUn (ta : TE) : TE := fun σ H Q => ta σ H fun x H1 => match x with
  | .int i => Q (.int (-i)) H1
  | _ => False
def cPart (t : TE) : TO := fun σ H Q => t σ H fun x H1 => match x with
  | .int i => Q (some i) H1
  | _ => False
def tPartO (f : Expr → OE) : Option Expr → Option (WX → TO)
  | none => some fun _ => tNoPart
  | some e => match f e with
    | some t => some fun W => cPart (t W)
    | none => none
/-- built-in functions by name -/
def bltTab (g : G) : List (Str × Value × RC) := [("repr", .builtin "repr", bReprG g), ("len", .builtin "len", bLenG g), ("isinstance", .builtin "isinstance", bIsi g.K), ("all", .builtin "all", bAll g.K), ("any", .builtin "any", bAny g.K), ("sum", .builtin "sum", bSum g.K),
  ("abs", .builtin "abs", bAbs), ("max", .builtin "max", bMax), ("min", .builtin "min", bMin), ("ord", .builtin "ord", bOrd), ("int", .type "int", bInt), ("str", .type "str", bStrG g), ("list", .type "list", bList g.K), ("tuple", .type "tuple", bTuple g.K), ("dict", .type "dict", bDict g.K),
  ("bool", .type "bool", bBoolG g), ("sorted", .builtin "sorted", bSortedX g.K), ("range", .type "range", bRng)]
def bltR (g : G) (x : Str) : Option (Value × RC) := (bltTab g).lookup x
/-- isinstance(.., D), D an own class by its name -/
def isOwn (g : G) (sc : Scope) (x : Str) : List Expr → Option (Str × Addr)
  | [_, .Name c _] => if x = "isinstance" ∧ sc.names.lookup c = some .globalImplicit then g.nes.find? (fun p => decide (p.1 = c)) else none
  | _ => none
def cMk (C : Addr) (n m : Nat) (arr : List V → List V → List V) (sp : Sp) (t tk : TA) (W : WX) : TE := fun σ H Q => t σ H fun vs H1 => tk σ H1 fun zs H2 => vs.length = n ∧ zs.length = m ∧ ∀ x dx, H2 x = none → H2 dx = none → dx ≠ x →
  sp (.ref x :: arr vs zs) (upd (upd H2 dx (.own x)) x (.ins C dx [])) (fun v H3 => v = .non ∧ Q (.ref x) H3) (fun cls d H' => W cls d σ H')
def tCallName (g : G) (f : Expr → OE) (sc : Scope) (x : Str) (es : List Expr) (kws : List Keyword) : OE :=
  if plainName x = true ∧ sc.names.lookup x = some .globalImplicit then
    match kwNames kws, tArgs f es, tKws f kws with
    | some ks, some t, some tk => match g.fns.find? (fun i => decide (i.name = x) && decide (i.n = es.length) && decide (i.ks = ks)) with
      | some i => some fun W => cCall i.sp es.length ks.length i.arr (t W) (tk W) W
      | none => match g.mks.find? (fun i => decide (i.name = x) && decide (i.n = es.length) && decide (i.ks = ks)) with
        | some i => some fun W => cMk i.cls es.length ks.length i.arr i.sp (t W) (tk W) W
        | none => if x ∈ g.blt ∧ kws = [] ∧ es ≠ [] then match (match isOwn g sc x es with | some D => some (Value.builtin "isinstance", bIsO g D.2) | none => bltR g x) with
            | some (v, r) => if bootBuiltins x = some v then some fun W => tCB r (t W) else none
            | none => none
          else none
    | _, _, _ => none
  else none
/-- max(x, key=f), min(x, key=f) -/
def tKeyed (g : G) (f : Expr → OE) (sc : Scope) (x : Str) (es : List Expr) (kws : List Keyword) : OE := match es, kws with
  | [e], [⟨some kn, .Name y _, _⟩] => if kn = "key" ∧ (x = "max" ∨ x = "min") ∧ sc.names.lookup x = some .globalImplicit ∧ x ∈ g.blt ∧ sc.names.lookup y = some .globalImplicit ∧ plainName y = true ∧ notStar e = true then
    (match f e, g.fns.find? (fun i => decide (i.name = y) && decide (i.n = 1) && decide (i.ks = [])) with
    | some t, some i => some fun W => cKeyed g.K (decide (x = "max")) i.sp i.arr (t W)
    | _, _ => none) else none
  | _, _ => none
/-- list(d.values()), list(d.items()) -/
def tListV (g : G) (f : Expr → OE) (sc : Scope) (x : Str) (es : List Expr) (kws : List Keyword) : OE := match es with
  | [.Call (.Attribute o m apos) [] [] cpos] => if x = "list" ∧ kws = [] ∧ sc.names.lookup x = some .globalImplicit ∧ x ∈ g.blt ∧ baseOk o = true ∧ (apos.endLine == cpos.line) = true then (match f o with
    | some t => if m = "values" then some fun W => cLV (t W) else if m = "items" then some fun W => cLI (t W) else none
    | none => none) else none
  | [.Call (.Name y _) [e1] [] _] => if x = "list" ∧ y = "enumerate" ∧ kws = [] ∧ sc.names.lookup x = some .globalImplicit ∧ x ∈ g.blt ∧ sc.names.lookup y = some .globalImplicit ∧ y ∈ g.blt ∧ notStar e1 = true then (match f e1 with
    | some t => some fun W => cLEn g.K (t W)
    | none => none)
    else if x = "len" ∧ y = "set" ∧ kws = [] ∧ sc.names.lookup x = some .globalImplicit ∧ x ∈ g.blt ∧ sc.names.lookup y = some .globalImplicit ∧ y ∈ g.blt ∧ notStar e1 = true then (match f e1 with
    | some t => some fun W => tLenSetK g.K (t W)
    | none => none) else none
  | [.Call (.Name y _) [e1, e2] [] _] => if x = "list" ∧ y = "zip" ∧ kws = [] ∧ sc.names.lookup x = some .globalImplicit ∧ x ∈ g.blt ∧ sc.names.lookup y = some .globalImplicit ∧ y ∈ g.blt ∧ notStar e1 = true ∧ notStar e2 = true then (match f e1, f e2 with
    | some t1, some t2 => some fun W => cLZip g.K (tCons (t1 W) (tCons (t2 W) tNil))
    | _, _ => none) else none
  | _ => none
/-- attributes of own classes -/
def cAttr (cands : List Addr) (f : Str) (ta : TE) : TE := fun σ H Q => ta σ H fun x H1 => match insOf H1 x with
  | some (_, C, fs) => C ∈ cands ∧ (match fs.lookup f with
    | some v => Q v H1
    | none => False)
  | none => False
def tPairsL (f : Expr → OE) : List (Option Expr) → List Expr → Option (List (WX → TE × TE))
  | [], [] => some []
  | some k :: ks, v :: vs => match f k, f v, tPairsL f ks vs with
    | some tk, some tv, some r => some ((fun W => (tk W, tv W)) :: r)
    | _, _, _ => none
  | _, _ => none
def tDict (f : Expr → OE) (ks : List (Option Expr)) (vs : List Expr) : OE := match ks, vs with
  | [], [] => some fun _ => tDNewK
  | ks, vs => if ks.length ≤ 15 then (match tPairsL f ks vs with
    | some trs => some fun W => tDisp (trs.map fun t => t W)
    | none => none) else none
end WR

set_option Elab.async false
set_option linter.all false
set_option maxRecDepth 100000
set_option maxHeartbeats 4000000
namespace WR
open PySem PySem.Spec PyProof.Rows L2

/-! ## 15. what a for walks; loops by turns -/
def cIter (K : PySem.W.Frag) (ta : TE) : TI := fun σ H R => ta σ H fun x H1 => match x with
  | .ref a => (match look K H1 a with
    | some (.lst _) => R (Itl K a) H1
    | some (.tup _) => R (Itt K a) H1
    | _ => (match H1 a with
      | some (.frz o (.dK kvs)) => R (Itk a o kvs) H1
      | some (.frz o (.dT kvs)) => R (Itkt a o kvs) H1
      | _ => False))
  | .str z => R (Its z) H1
  | _ => False
def cRng1 (ta : TA) : TI := fun σ H R => ta σ H fun vs H1 => match vs with
  | [.int j] => (-(2 ^ 62) ≤ j ∧ j < 2 ^ 62) ∧ R (Itr 0 j.toNat) H1
  | _ => False
def cRng2 (ta : TA) : TI := fun σ H R => ta σ H fun vs H1 => match vs with
  | [.int i, .int j] => (-(2 ^ 62) ≤ i ∧ i < 2 ^ 62 ∧ -(2 ^ 62) ≤ j ∧ j < 2 ^ 62) ∧ R (Itr i (j - i).toNat) H1
  | _ => False
def cRng3 (ta : TA) : TI := fun σ H R => ta σ H fun vs H1 => match vs with
  | [.int i, .int j, .int c] => ∃ n, RgC i j c n ∧ R (Itc i c n) H1
  | _ => False
def cEnum (K : PySem.W.Frag) (ta : TA) : TI := fun σ H R => ta σ H fun vs H1 => match vs with
  | [.ref a] => (match look K H1 a with
    | some (.lst _) => R (Ite K a) H1
    | some (.tup _) => R (IteT K a) H1
    | _ => False)
  | [.str z] => R (IteS z 0) H1
  | _ => False
def cZip (K : PySem.W.Frag) (ta : TA) : TI := fun σ H R => ta σ H fun vs H1 => match vs with
  | [.ref a, .ref b] => (match look K H1 a, look K H1 b with
    | some (.lst _), some (.lst _) => R (Itz K a b) H1
    | _, _ => False)
  | _ => False
def cRev (K : PySem.W.Frag) (ta : TA) : TI := fun σ H R => ta σ H fun vs H1 => match vs with
  | [.ref a] => (match look K H1 a with
    | some (.lst xs) => R (Itv K a xs.length) H1
    | _ => False)
  | _ => False
def cDview (k : Nat) (td : TE) : TI := fun σ H R => td σ H fun x H1 => match x with
  | .ref d => (match H1 d with
    | some (.frz o (.dK kvs)) => R (if k = 0 then Itk d o kvs else if k = 1 then Itd d o kvs else Iti d o kvs) H1
    | _ => False)
  | _ => False
section
variable {X : Cx} {tg : Expr}
theorem PI_imp {l : Expr} {t t' : TI} (h : PI X tg l t) (k : ∀ σ H R, t' σ H R → t σ H R) : PI X tg l t' := ⟨fun pins s σ H R I q => h.run pins s σ H R I (k σ H R q)⟩
theorem pi_dyn {l : Expr} {tl : TE} (hl : PE X l tl) : PI X tg l (cIter X.K tl) := by
  refine ⟨fun pins s σ H R I h => ?_⟩
  refine thn (hl.run pins s σ H _ I h) fun v s1 ⟨x, H1, I1, r1, q1⟩ => ?_
  dsimp only at q1
  split at q1
  · rename_i a
    split at q1
    · rename_i xs e
      cases r1
      obtain ⟨its, rv, p, hz⟩ := I1.list (look_lst e)
      exact wpAny_pyIter_list p.isList (pi_one (tk := s1.toks) I1 _ (turn_list a _) ⟨_, Heap.get?_push_size _ rfl, rfl, rfl⟩ q1)
    · rename_i xs e
      cases r1
      obtain ⟨its, rv, p, hz⟩ := I1.tuple (look_tup e)
      exact wpAny_pyIter_tuple (show s1.heap.IsTuple a its.toArray from p) (pi_one (tk := s1.toks) I1 _ (turn_tuple a _) ⟨_, Heap.get?_push_size _ rfl, rfl, rfl⟩ q1)
    · split at q1
      · rename_i o kvs hd
        obtain rfl : v = Value.ref a := r1
        obtain ⟨hs, hgd, hx, es, ep, vs, hdt, hsz, kv, hm⟩ := I1.frzK hd
        refine iter_keys hs hgd hx hdt (pi_one (tk := s1.toks) I1 _ (turn_keys _ hdt) ⟨_, Heap.get?_push_size _ rfl, rfl, ?_⟩ q1)
        rw [hsz] <;> rfl
      · rename_i o kvs hd
        obtain rfl : v = Value.ref a := r1
        obtain ⟨hs, hgd, hx, es, ep, hdt, hsz, ent⟩ := I1.frzT hd
        refine iter_keys hs hgd hx hdt (pi_one (tk := s1.toks) I1 _ (turn_keysT _ hdt) ⟨_, Heap.get?_push_size _ rfl, rfl, ?_⟩ q1)
        rw [hsz] <;> rfl
      · exact q1.elim
  · rename_i x
    obtain ⟨t, rfl⟩ := r1
    cases ha : x.cps.all (· < 128)
    · exact wpAny_pyIter_wide ha (pi_one (tk := s1.toks) I1 _ (turn_str _ x t "str_iterator" (.inr rfl)) ⟨_, Heap.get?_push_size _ rfl, rfl, rfl⟩ q1)
    · exact wpAny_pyIter_ascii ha (pi_one (tk := s1.toks) I1 _ (turn_str _ x t "str_ascii_iterator" (.inl rfl)) ⟨_, Heap.get?_push_size _ rfl, rfl, rfl⟩ q1)
  · exact q1.elim
end

/-- a dict that is walked is locked from then on (where it isn't locked for the statement alone) -/
def frzE (t : TE) : TE := fun σ H Q => t σ H fun x H1 => match x with
  | .ref d => (match H1 d with
    | some (.dK kvs) => ∀ o, Q (.ref d) (upd H1 d (.frz o (.dK kvs)))
    | _ => Q (.ref d) H1)
  | x => Q x H1
theorem pe_frz {X : Cx} {e : Expr} {t : TE} (h : PE X e t) : PE X e (frzE t) := by
  refine ⟨fun pins s σ H Q I q => ?_⟩
  refine thn (h.run pins s σ H _ I q) fun v s1 ⟨x, H1, I1, r1, q1⟩ => ?_
  dsimp only at q1
  split at q1
  · split at q1
    · rename_i e
      obtain ⟨od, I2⟩ := I1.lock e trivial
      exact ⟨_, _, I2, r1, q1 od⟩
    · exact ⟨_, _, I1, r1, q1⟩
  · exact ⟨_, _, I1, r1, q1⟩
/-- a for's turns -/
def lp (J : It) (g : TG) (tb : TS) (D : Ends) : Nat → Nat → St → Hp → Prop
  | 0, i, σ, H => J.stop i H ∧ D.nx σ H
  | n + 1, i, σ, H => (J.stop i H ∧ D.nx σ H) ∨ (J.go i H ∧ ∀ x H', J.yld i H x H' → g x σ H' fun σ2 H2 => tb { D with nx := lp J g tb D n (i + 1), ct := lp J g tb D n (i + 1), bk := D.nx } σ2 H2)
def cFor (wi : TI) (g : TG) (tb : TS) : TS := fun D σ H => wi σ H fun J H1 => ∃ n, lp J g tb D n 0 σ H1
/-- TI's readings are monotone in what is wanted: asked of the very ones that are used -/
def MonoI (wi : TI) : Prop := ∀ σ H R R', (∀ J H', R J H' → R' J H') → wi σ H R → wi σ H R'
theorem lp_W {J : It} {g : TG} {tb : TS} {D : Ends} {σ : St} {H1 : Hp} (h : ∃ n, lp J g tb D n 0 σ H1) :
    ∃ W : Nat → Nat → St → Hp → Prop, (∃ m, W 0 m σ H1) ∧ ∀ i m σ H, W i m σ H →
      (J.stop i H ∧ D.nx σ H) ∨ (J.go i H ∧ ∃ N : St → Hp → Prop, (∀ σ' H', N σ' H' → ∃ m', m' < m ∧ W (i + 1) m' σ' H') ∧ ∀ x H', J.yld i H x H' → g x σ H' fun σ2 H2 => tb { D with nx := N, ct := N, bk := D.nx } σ2 H2) := by
  obtain ⟨n, h⟩ := h
  refine ⟨fun i m σ H => lp J g tb D m i σ H, ⟨n, h⟩, fun i m σ H w => ?_⟩
  cases m with
  | zero => exact .inl w
  | succ m =>
    rcases w with w | ⟨go, w⟩
    · exact .inl w
    · exact .inr ⟨go, lp J g tb D m (i + 1), fun σ' H' q => ⟨m, Nat.lt_succ_self _, q⟩, w⟩
/-- a comprehension's turns -/
def lpc (J : It) (g : TG) (tt : TT) (te : TE) (vs : List Nat) (σ : St) (D : Addr) (Q : VK) : Nat → Nat → Hp → Prop
  | 0, i, H => J.stop i H ∧ Q (.ref D) H
  | n + 1, i, H => (J.stop i H ∧ Q (.ref D) H) ∨ (J.go i H ∧ ∀ x H', J.yld i H x H' → g x (wipe σ vs) H' fun σ2 H2 => wipe σ2 vs = wipe σ vs ∧ tt σ2 H2 fun b H3 =>
      if b = true then te σ2 H3 fun y H4 => ∃ acc, H4 D = some (.lst acc) ∧ acc.length < sizeLine ∧ lpc J g tt te vs σ D Q n (i + 1) (upd H4 D (.lst (acc ++ [y]))) else lpc J g tt te vs σ D Q n (i + 1) H3)
def cLc (wi : TI) (g : TG) (tt : TT) (te : TE) (vs : List Nat) : TE := fun σ H Q => wi σ H fun J H1 => ∀ D, H1 D = none → ∃ n, lpc J g tt te vs σ D Q n 0 (upd H1 D (.lst []))
theorem lpc_W {J : It} {g : TG} {tt : TT} {te : TE} {vs : List Nat} {σ : St} {D : Addr} {Q : VK} {H1 : Hp} (h : ∃ n, lpc J g tt te vs σ D Q n 0 H1) :
    ∃ W : Nat → Nat → Hp → Prop, (∃ m, W 0 m H1) ∧ ∀ i m H, W i m H →
      (J.stop i H ∧ Q (.ref D) H) ∨ (J.go i H ∧ ∃ Nx : Hp → Prop, (∀ H', Nx H' → ∃ m', m' < m ∧ W (i + 1) m' H') ∧ ∀ x H', J.yld i H x H' → g x (wipe σ vs) H' fun σ2 H2 => wipe σ2 vs = wipe σ vs ∧ tt σ2 H2 fun b H3 =>
        if b = true then te σ2 H3 fun y H4 => ∃ acc, H4 D = some (.lst acc) ∧ acc.length < sizeLine ∧ Nx (upd H4 D (.lst (acc ++ [y]))) else Nx H3) := by
  obtain ⟨n, h⟩ := h
  refine ⟨fun i m H => lpc J g tt te vs σ D Q m i H, ⟨n, h⟩, fun i m H w => ?_⟩
  cases m with
  | zero => exact .inl w
  | succ m =>
    rcases w with w | ⟨go, w⟩
    · exact .inl w
    · exact .inr ⟨go, lpc J g tt te vs σ D Q m (i + 1), fun H' q => ⟨m, Nat.lt_succ_self _, q⟩, w⟩
/-- a while's turns -/
def lpw (c : TT) (tb : TS) (D : Ends) : Nat → St → Hp → Prop
  | 0, _, _ => False
  | n + 1, σ, H => c σ H fun b H1 => if b = true then tb { D with nx := lpw c tb D n, ct := lpw c tb D n, bk := D.nx } σ H1 else D.nx σ H1
def cWhile (c : TT) (tb : TS) : TS := fun D σ H => ∃ n, lpw c tb D n σ H
end WR

set_option Elab.async false
set_option linter.all false
set_option maxRecDepth 100000
set_option maxHeartbeats 4000000
namespace WR
open PySem PySem.Spec PyProof.Rows L2

/-! ## 16. readings closed upwards -/
def upE (t : TE) : TE := fun σ H Q => ∃ Q0 : VK, t σ H Q0 ∧ ∀ v H', Q0 v H' → Q v H'
def upT (t : TT) : TT := fun σ H Q => ∃ Q0 : Bool → Hp → Prop, t σ H Q0 ∧ ∀ v H', Q0 v H' → Q v H'
def upI (t : TI) : TI := fun σ H R => ∃ R0 : It → Hp → Prop, t σ H R0 ∧ ∀ J H', R0 J H' → R J H'
section
variable {X : Cx}
theorem PE_up {e : Expr} {t : TE} (h : PE X e t) : PE X e (upE t) := ⟨fun pins s σ H Q I ⟨Q0, q, k⟩ => thn (h.run pins s σ H Q0 I q) fun _ _ ⟨v, H', I', r, z⟩ => ⟨v, H', I', r, k v H' z⟩⟩
theorem PT_up {e : Expr} {t : TT} (h : PT X e t) : PT X e (upT t) := ⟨fun pins s σ H Q I ⟨Q0, q, k⟩ => thn (h.run pins s σ H Q0 I q) fun _ _ ⟨H', I', z⟩ => ⟨H', I', k _ H' z⟩⟩
theorem PI_up {tg l : Expr} {t : TI} (h : PI X tg l t) : PI X tg l (upI t) := ⟨fun pins s σ H R I ⟨R0, q, k⟩ => thn (h.run pins s σ H R0 I q) fun _ _ z => thn z fun _ _ ⟨it, fp, tn, J, H', a, b, c, d, e, f⟩ => ⟨it, fp, tn, J, H', a, b, c, d, e, k J H' f⟩⟩
theorem pe_and' {a b : Expr} {rest : List Expr} {pos : Pos} {ta tb : TE} (ha : PE X a ta) (hb : PE X (.BoolOp .And (b :: rest) pos) tb) : PE X (.BoolOp .And (a :: b :: rest) pos) (cAnd X.K ta tb) :=
  PE_imp (pe_andT (PE_up ha) hb) fun σ H Q h => ⟨_, h, fun x H1 q => by
    try dsimp only at q
    split at q
    · rename_i e; exact ⟨true, oTru_ok e, iteT q⟩
    · rename_i e; exact ⟨false, oTru_ok e, iteF q⟩
    · exact q.elim⟩
theorem pe_or' {a b : Expr} {rest : List Expr} {pos : Pos} {ta tb : TE} (ha : PE X a ta) (hb : PE X (.BoolOp .Or (b :: rest) pos) tb) : PE X (.BoolOp .Or (a :: b :: rest) pos) (cOr X.K ta tb) :=
  PE_imp (pe_orT (PE_up ha) hb) fun σ H Q h => ⟨_, h, fun x H1 q => by
    try dsimp only at q
    split at q
    · rename_i e; exact ⟨true, oTru_ok e, iteT q⟩
    · rename_i e; exact ⟨false, oTru_ok e, iteF q⟩
    · exact q.elim⟩
theorem pe_not' {a : Expr} {pos : Pos} {ta : TE} (ha : PE X a ta) : PE X (.UnaryOp .Not a pos) (cNot X.K ta) :=
  PE_imp (pe_notT (PE_up ha)) fun σ H Q h => ⟨_, h, fun x H1 q => by
    try dsimp only at q
    split at q
    · rename_i e; exact ⟨_, oTru_ok e, q⟩
    · exact q.elim⟩
theorem pe_neg' {a : Expr} {pos : Pos} {ta : TE} (ha : PE X a ta) : PE X (.UnaryOp .USub a pos) (cUn ta) :=
  PE_imp (pe_un un_neg (PE_up ha)) fun σ H Q h => ⟨_, h, fun x H1 q => by
    try dsimp only at q
    split at q
    · exact ⟨_, rfl, q⟩
    · exact q.elim⟩
theorem pt_tru' {e : Expr} {t : TE} (h : PE X e t) (he : ∀ whole, isTrue e X.env whole = (do let v ← whole; standAt e.pos; holding [v] (truthy v))) : PT X e (cTru X.K t) :=
  PT_imp (pt_truth (PE_up h) he) fun σ H Q h => ⟨_, h, fun x H1 q => by
    try dsimp only at q
    split at q
    · rename_i e; exact ⟨_, oTru_ok e, q⟩
    · exact q.elim⟩
theorem pt_cmp' {a b : Expr} {op : CmpOp} {r : R2} {pos : Pos} {ta tb : TE} (ho : OpR X (compareOp op) r) (ha : PE X a ta) (hb : PE X b tb) (hm : behindInMarks op b = false) : PT X (.Compare a [op] [b] pos) (cTest (tOp r ta tb)) := by
  refine PT_imp (pt_cmpR (r := fun x y H Q => ∃ Q0, r x y H Q0 ∧ ∀ v H', Q0 v H' → Q v H') (fun pins s σ H x y v u Q I rx ry ⟨Q0, q, k⟩ => thn (ho pins s σ H x y v u Q0 I rx ry q) fun _ _ ⟨v, H', I', r, z⟩ => ⟨v, H', I', r, k v H' z⟩) (PE_up ha) (PE_up hb) hm) fun σ H Q h => ?_
  refine ⟨_, h, fun x H1 q => ⟨_, q, fun y H2 q => ⟨_, q, fun z H3 q => ?_⟩⟩⟩
  try dsimp only at q
  split at q
  · exact ⟨_, rfl, q⟩
  · exact q.elim
theorem opUp {f : Value → Value → Sem Value} {r : R2} (ho : OpR X f r) : OpR X f (fun x y H Q => ∃ Q0 : VK, r x y H Q0 ∧ ∀ v H', Q0 v H' → Q v H') := fun pins s σ H x y v u Q I rx ry ⟨Q0, q, k⟩ => thn (ho pins s σ H x y v u Q0 I rx ry q) fun _ _ ⟨v, H', I', r, z⟩ => ⟨v, H', I', r, k v H' z⟩
theorem pe_chain' {a b c : Expr} {op op' : CmpOp} {r r' : R2} {pos : Pos} {ta tb tc : TE} (ho : OpR X (compareOp op) r) (ho' : OpR X (compareOp op') r') (ha : PE X a ta) (hb : PE X b tb) (hc : PE X c tc) (hm : lastMarks [op, op'] [b, c] = false) :
    PE X (.Compare a [op, op'] [b, c] pos) (cChain r r' ta tb tc) := by
  refine PE_imp (pe_chain (opUp ho) ho' (PE_up ha) (PE_up hb) hc hm) fun σ H Q h => ?_
  refine ⟨_, h, fun x H1 q => ⟨_, q, fun y H2 q => ⟨_, q, fun z H3 q => ?_⟩⟩⟩
  try dsimp only at q
  split at q
  · exact ⟨true, rfl, iteT q⟩
  · exact ⟨false, rfl, iteF q⟩
  · exact q.elim
theorem pt_chain' {a b c : Expr} {op op' : CmpOp} {r r' : R2} {pos : Pos} {ta tb tc : TE} (ho : OpR X (compareOp op) r) (ho' : OpR X (compareOp op') r') (ha : PE X a ta) (hb : PE X b tb) (hc : PE X c tc) (hm : lastMarks [op, op'] [b, c] = false) :
    PT X (.Compare a [op, op'] [b, c] pos) (cTest (cChain r r' ta tb tc)) := by
  refine PT_imp (pt_chain (opUp ho) (opUp ho') (PE_up ha) (PE_up hb) (PE_up hc) hm) fun σ H Q h => ?_
  refine ⟨_, h, fun x H1 q => ⟨_, q, fun y H2 q => ⟨_, q, fun z H3 q => ?_⟩⟩⟩
  try dsimp only at q
  split at q
  · refine ⟨true, rfl, iteT ?_⟩
    refine ⟨_, q, fun w H4 q => ⟨_, q, fun z2 H5 q => ?_⟩⟩
    try dsimp only at q
    split at q
    · exact ⟨_, rfl, q⟩
    · exact q.elim
  · exact ⟨false, rfl, iteF ⟨_, rfl, q⟩⟩
  · exact q.elim
theorem po_part' {e : Expr} {t : TE} (h : PE X e t) : PO X (some e) (cPart t) := by
  have z := po_some (PE_up h)
  refine ⟨fun pins s σ H Q I q => z.run pins s σ H Q I ⟨_, q, fun x H1 q => ?_⟩⟩
  try dsimp only at q
  split at q
  · exact ⟨_, rfl, q⟩
  · exact q.elim
/-- iterables -/
def upA (t : TA) : TA := fun σ H Q => ∃ Q0 : List V → Hp → Prop, t σ H Q0 ∧ ∀ v H', Q0 v H' → Q v H'
theorem PA_up {es : List Expr} {t : TA} (h : PA X es t) : PA X es (upA t) := ⟨fun ps pins s σ H Q I ⟨Q0, q, k⟩ => thn (h.run ps pins s σ H Q0 I q) fun _ _ ⟨v, H', I', r, z⟩ => ⟨v, H', I', r, k v H' z⟩⟩
theorem star1 {a : Expr} {env : Env} (h : notStar a = true) : starEach [a] env = [(false, eval a env)] := star_of h
theorem pi_rng1' {tg a : Expr} {ta : TA} {p pos : Pos} (hg : Gl X "range") (hm : X.mg "range" = none) (h1 : notStar a = true) (ha : PA X [a] ta) : PI X tg (.Call (.Name "range" p) [a] [] pos) (cRng1 ta) :=
  PI_imp (pi_range1 hg hm (PA_up ha) (star1 h1)) fun σ H R h => ⟨_, h, fun vs H1 q => by
    try dsimp only at q
    split at q
    · exact ⟨_, rfl, q.1.1, q.1.2, q.2⟩
    · exact q.elim⟩
theorem pi_rng2' {tg a b : Expr} {ta : TA} {p pos : Pos} (hg : Gl X "range") (hm : X.mg "range" = none) (h1 : notStar a = true) (h2 : notStar b = true) (ha : PA X [a, b] ta) : PI X tg (.Call (.Name "range" p) [a, b] [] pos) (cRng2 ta) :=
  PI_imp (pi_range2 hg hm (PA_up ha) ((star_of h1).trans (by rw [star1 h2])) (star1 h2)) fun σ H R h => ⟨_, h, fun vs H1 q => by
    try dsimp only at q
    split at q
    · exact ⟨_, _, rfl, q.1, q.2⟩
    · exact q.elim⟩
theorem pi_rng3' {tg a b c : Expr} {ta : TA} {p pos : Pos} (hg : Gl X "range") (hm : X.mg "range" = none) (h1 : notStar a = true) (h2 : notStar b = true) (h3 : notStar c = true) (ha : PA X [a, b, c] ta) : PI X tg (.Call (.Name "range" p) [a, b, c] [] pos) (cRng3 ta) :=
  PI_imp (pi_range3 hg hm (PA_up ha) (star_of h1) (star_all (by rw [List.all_cons, List.all_cons, h2, h3]; rfl))) fun σ H R h => ⟨_, h, fun vs H1 q => by
    try dsimp only at q
    split at q
    · obtain ⟨n, c, q⟩ := q; exact ⟨_, _, _, n, rfl, c, q⟩
    · exact q.elim⟩
theorem pi_enum' {a : Expr} {elts : List Expr} {kk : Nat} {ta : TA} {p pos tpos : Pos} (hg : Gl X "enumerate") (hm : X.mg "enumerate" = none) (h1 : notStar a = true) (ha : PA X [a] ta) : PI X (.Tuple elts kk tpos) (.Call (.Name "enumerate" p) [a] [] pos) (cEnum X.K ta) :=
  PI_imp (pi_enumC hg hm (PA_up ha) (star1 h1)) fun σ H R h => ⟨_, h, fun vs H1 q => by
    try dsimp only at q
    split at q
    · split at q
      · rename_i e; exact ⟨_, rfl, .inl ⟨_, _, rfl, look_lst e, q⟩⟩
      · rename_i e; exact ⟨_, rfl, .inr (.inl ⟨_, _, rfl, look_tup e, q⟩)⟩
      · exact q.elim
    · exact ⟨_, rfl, .inr (.inr ⟨_, rfl, q⟩)⟩
    · exact q.elim⟩
theorem pi_zip' {a b : Expr} {elts : List Expr} {kk : Nat} {ta : TA} {p pos tpos : Pos} (hg : Gl X "zip") (hm : X.mg "zip" = none) (h1 : notStar a = true) (h2 : notStar b = true) (ha : PA X [a, b] ta) : PI X (.Tuple elts kk tpos) (.Call (.Name "zip" p) [a, b] [] pos) (cZip X.K ta) :=
  PI_imp (pi_zip hg hm (PA_up ha) (star_of h1) (star_all (by rw [List.all_cons, h2]; rfl))) fun σ H R h => ⟨_, h, fun vs H1 q => by
    try dsimp only at q
    split at q
    · split at q
      · rename_i e f; exact ⟨_, _, _, _, rfl, look_lst e, look_lst f, q⟩
      · exact q.elim
    · exact q.elim⟩
theorem pi_rev' {tg a : Expr} {ta : TA} {p pos : Pos} (hg : Gl X "reversed") (hm : X.mg "reversed" = none) (h1 : notStar a = true) (ha : PA X [a] ta) : PI X tg (.Call (.Name "reversed" p) [a] [] pos) (cRev X.K ta) :=
  PI_imp (pi_reversed hg hm (PA_up ha) (star1 h1)) fun σ H R h => ⟨_, h, fun vs H1 q => by
    try dsimp only at q
    split at q
    · split at q
      · rename_i e; exact ⟨_, _, rfl, look_lst e, q⟩
      · exact q.elim
    · exact q.elim⟩
theorem pi_view' {tg e : Expr} {td : TE} {apos cpos : Pos} {m : Str} {k : Nat} (he : PE X e td) (hb : baseOk e = true) (hl : (apos.endLine == cpos.line) = true) (hk : (m = "keys" ∧ k = 0) ∨ (m = "values" ∧ k = 1) ∨ (m = "items" ∧ k = 2 ∧ ∃ elts kk tpos, tg = .Tuple elts kk tpos)) :
    PI X tg (.Call (.Attribute e m apos) [] [] cpos) (cDview k td) := by
  rcases hk with ⟨rfl, rfl⟩ | ⟨rfl, rfl⟩ | ⟨rfl, rfl, elts, kk, tpos, rfl⟩
  · refine PI_imp (pi_keysM (PE_up he) (base_of hb) hl) fun σ H R h => ⟨_, h, fun x H1 q => ?_⟩
    try dsimp only at q
    split at q
    · split at q
      · rename_i e; exact ⟨_, _, _, rfl, e, q⟩
      · exact q.elim
    · exact q.elim
  · refine PI_imp (pi_values (PE_up he) (base_of hb) hl) fun σ H R h => ⟨_, h, fun x H1 q => ?_⟩
    try dsimp only at q
    split at q
    · split at q
      · rename_i e; exact ⟨_, _, _, rfl, e, q⟩
      · exact q.elim
    · exact q.elim
  · refine PI_imp (pi_items (PE_up he) (base_of hb) hl) fun σ H R h => ⟨_, h, fun x H1 q => ?_⟩
    try dsimp only at q
    split at q
    · split at q
      · rename_i e; exact ⟨_, _, _, rfl, e, q⟩
      · exact q.elim
    · exact q.elim
end
end WR

set_option Elab.async false
set_option linter.all false
set_option maxRecDepth 100000
set_option maxHeartbeats 4000000
namespace WR
open PySem PySem.Spec PyProof.Rows L2

/-! ## 17. targets -/
abbrev wNone : WX := fun _ _ _ _ => False
def cTupG (K : PySem.W.Frag) (n : Nat) (t : TGs) : TG := fun v σ H Q => match v with
  | .ref a => (match look K H a with
    | some (.tup xs) => xs.length = n ∧ t xs σ H Q
    | _ => False)
  | _ => False
/-- o[i] = v -/
def oSet : TSet := fun o i v H Q => match o with
  | .ref p => (match H p with
    | some (.lst xs) => (match i with
      | .int k => (match ixN xs.length k with
        | some j => Q (upd H p (.lst (xs.set j v)))
        | none => False)
      | _ => False)
    | some (.dK kvs) => (match keyOf i with
      | some k => kvs.length < sizeLine ∧ Q (upd H p (.dK (putK kvs k v)))
      | none => ∃ H', DPut H p i v H' ∧ Q H')
    | some (.dT kvs) => ∃ H', DPut H p i v H' ∧ Q H'
    | _ => False)
  | _ => False
def notSlice : Expr → Bool
  | .Slice _ _ _ _ => false
  | _ => true
def starOf : List Expr → Option (Expr × Expr)
  | [a, .Starred b _] => some (a, b)
  | _ => none
mutual
def tG (K : PySem.W.Frag) (f : Expr → OE) (N : List Str) (sc : Scope) (okc : Str → Bool) : Nat → Expr → Option (WX → TG)
  | 0, _ => none
  | n + 1, .Name x _ => if plainName x = true then (match sc.names.lookup x with
      | some .local => (ix? N x).map fun i _ => gName i
      | some .cell => if okc x = true then (ix? N x).map fun i _ => gName i else none
      | _ => none) else none
  | n + 1, .Tuple es _ _ => if es.all notStar = true then (tGs K f N sc okc n es).map fun t W => cTupG K es.length (t W) else (match starOf es with
      | some (a, b) => (tGs K f N sc okc n [a, b]).map fun t W => cStarG K (t W)
      | none => none)
  | n + 1, .Subscript o i _ => if notSlice i = true then (match f o, f i with
      | some to, some ti => some fun W => gSub (to W) (ti W) oSet
      | _, _ => none) else none
  | _, _ => none
def tGs (K : PySem.W.Frag) (f : Expr → OE) (N : List Str) (sc : Scope) (okc : Str → Bool) : Nat → List Expr → Option (WX → TGs)
  | 0, _ => none
  | _ + 1, [] => some fun _ => gNil
  | n + 1, e :: es => if notStar e = true then (match tG K f N sc okc n e, tGs K f N sc okc n es with
      | some t, some u => some fun W => gCons (t W) (u W)
      | _, _ => none) else none
end
section
variable {X : Cx}
theorem r_set (hu : X.A.units + 1 < cLine) : PSet X oSet := by
  intro pins s σ H o i v ov iv u Q I ro ri rv h
  unfold oSet at h
  split at h
  · rename_i p
    have dput : ∀ H', DPut H p i v H' → Q H' → wpAny (model X.prog X.w) X.A (setItem ov iv u) (fun _ s' => ∃ H', Inv X pins σ H' s' ∧ Q H') X.xe s := fun H' g q => by
      cases ro
      exact d_setItem hu I g ri rv fun s' I' => ⟨H', I', q⟩
    split at h
    · rename_i xs e
      split at h
      · split at h
        · rename_i j ej
          exact set_list pins s σ H _ _ v ov iv u Q I ro ri rv ⟨_, _, _, j, rfl, rfl, e, ej, h⟩
        · exact h.elim
      · exact h.elim
    · rename_i kvs e
      split at h
      · rename_i k ek
        refine dput _ ?_ h.2
        rw [keyOf_kV ek]
        exact DPut.k e h.1
      · obtain ⟨H', g, q⟩ := h
        exact dput H' g q
    · obtain ⟨H', g, q⟩ := h
      exact dput H' g q
    · exact h.elim
  · exact h.elim
theorem assign_star {es : List Expr} {e : Expr} {env : Env} (h : notStar e = true) : assignEach (e :: es) env = (false, assign e env) :: assignEach es env := by
  cases e <;> first | rfl | exact absurd h Bool.false_ne_true
theorem assign_len : ∀ {es : List Expr} {env : Env}, (assignEach es env).length = es.length
  | [], _ => rfl
  | e :: es, env => by
    cases e <;> exact congrArg Nat.succ assign_len
theorem assign_none : ∀ {es : List Expr} {env : Env}, es.all notStar = true → (assignEach es env).findIdx? (·.1) = none
  | [], _, _ => rfl
  | e :: es, env, h => by
    rw [List.all_cons, Bool.and_eq_true] at h
    rw [assign_star h.1, List.findIdx?_cons]
    simp [assign_none h.2]
/-- expressions are read rightly at X -/
def SE (X : Cx) (W : WX) (f : Expr → OE) : Prop := ∀ e t, f e = some t → PE X e (t W)
def ST (X : Cx) (W : WX) (f : Expr → Option (WX → TT)) : Prop := ∀ e t, f e = some t → PT X e (t W)
theorem tArgs_ok {f : Expr → OE} {W : WX} (h : SE X W f) : ∀ {es : List Expr} {t : WX → TA}, tArgs f es = some t → PA X es (t W) ∧ es.all notStar = true ∧ (es = [] → t W = tNil)
  | [], t, e => by cases e; exact ⟨pa_nil, rfl, fun _ => rfl⟩
  | e :: es, t, q => by
    unfold tArgs at q
    split at q
    · rename_i hs
      split at q
      · rename_i te tr e1 e2
        cases q
        obtain ⟨p1, p2, p3⟩ := tArgs_ok h e2
        exact ⟨pa_cons (h _ _ e1) p1 (star_of hs), by rw [List.all_cons, hs, p2]; rfl, fun z => nomatch z⟩
      · cases q
    · cases q
theorem tKws_ok {f : Expr → OE} {W : WX} (h : SE X W f) : ∀ {es : List Keyword} {t : WX → TA}, tKws f es = some t → PK X es (t W) ∧ (es = [] → t W = tNil)
  | [], t, e => by cases e; exact ⟨pk_nil, fun _ => rfl⟩
  | ⟨nm, v, p⟩ :: es, t, q => by
    unfold tKws at q
    split at q
    · rename_i te tr e1 e2
      cases q
      obtain ⟨p1, p2⟩ := tKws_ok h e2
      exact ⟨pk_cons (h _ _ e1) p1, fun z => nomatch z⟩
    · cases q
theorem tBool_ok {f : Expr → OE} {W : WX} (h : SE X W f) (b : Bool) {pos : Pos} : ∀ {es : List Expr} {t : WX → TE}, tBool X.K f b es = some t → PE X (.BoolOp (if b then .And else .Or) es pos) (t W)
  | [], t, e => by cases e
  | [e], t, q => pe_one (h _ _ q)
  | e :: e2 :: es, t, q => by
    unfold tBool at q
    split at q
    · rename_i ta tb e1 e2
      cases q
      have hb := tBool_ok h b (pos := pos) e2
      cases b with
      | true => exact pe_and' (h _ _ e1) hb
      | false => exact pe_or' (h _ _ e1) hb
    · cases q
theorem tBoolT_ok {f : Expr → Option (WX → TT)} {W : WX} (h : ST X W f) (b : Bool) {pos : Pos} : ∀ {es : List Expr} {t : WX → TT}, tBoolT f b es = some t → PW X (.BoolOp (if b then .And else .Or) es pos) (t W)
  | [], t, e => by cases e
  | [e], t, q => by
    cases b with
    | true => exact pw_and1 (h _ _ q)
    | false => exact pw_or1 (h _ _ q)
  | e :: e2 :: es, t, q => by
    unfold tBoolT at q
    split at q
    · rename_i ta tb e1 e2
      cases q
      have hb := tBoolT_ok h b (pos := pos) e2
      cases b with
      | true => exact pw_and (h _ _ e1) hb
      | false => exact pw_or (h _ _ e1) hb
    · cases q
theorem tPairs_ok {f : Expr → OE} {W : WX} (h : SE X W f) {pos : Pos} : ∀ {ks : List (Option Expr)} {vs : List Expr} {trs : List (WX → TE × TE)}, tPairsL f ks vs = some trs → PPs X pos ks vs (trs.map fun t => t W) ∧ ks.all (·.isSome) = true ∧ ks.length = vs.length
  | [], [], trs, q => by cases q; exact ⟨pps_nil, rfl, rfl⟩
  | some k :: ks, v :: vs, trs, q => by
    unfold tPairsL at q
    split at q
    · rename_i tk tv r e1 e2 e3
      cases q
      obtain ⟨p1, p2, p3⟩ := tPairs_ok h (pos := pos) e3
      exact ⟨pps_cons (h _ _ e1) (h _ _ e2) p1, by rw [List.all_cons, p2]; rfl, by rw [List.length_cons, List.length_cons, p3]⟩
    · cases q
  | none :: _, _, _, q => by simp [tPairsL] at q
  | some _ :: _, [], _, q => by simp [tPairsL] at q
  | [], _ :: _, _, q => by simp [tPairsL] at q
theorem tPartO_ok {f : Expr → OE} {W : WX} (h : SE X W f) : ∀ {o : Option Expr} {t : WX → TO}, tPartO f o = some t → PO X o (t W)
  | none, t, q => by cases q; exact po_none
  | some e, t, q => by
    simp only [tPartO] at q
    split at q
    · rename_i te e1; cases q; exact po_part' (h _ _ e1)
    · cases q
end
section
variable {g : G} {lev : Nat} {X : Cx} {N : List Str} {sc : Scope} {W : WX} {f : Expr → OE} {okc : Str → Bool}
theorem pg_nm (c : COk g lev X N sc W) {x : Str} {pos : Pos} {k : NameKind} {i : Nat} (hk : sc.names.lookup x = some k) (hkk : k = .local ∨ k = .cell) (hf : X.fn x = true ∨ k = .local) (hi : ix? N x = some i) : PG X (.Name x pos) (gName i) := by
  refine pg_name c.nd (by rw [c.hN]; exact ix_get hi) ?_ ?_
  · unfold L2.Loc
    rw [c.hsc, hk]
    rcases hkk with rfl | rfl <;> simp
  · rw [c.hsc, hk]
    rcases hf with z | rfl
    · exact .inl z
    · exact .inr rfl
theorem starOf_ok {es : List Expr} {a b : Expr} (h : starOf es = some (a, b)) : ∃ p, es = [a, .Starred b p] := by
  unfold starOf at h
  split at h
  · cases h; exact ⟨_, rfl⟩
  · cases h
theorem tGs_star {K : PySem.W.Frag} {n : Nat} {a b : Expr} {t : WX → TGs} (h : tGs K f N sc okc n [a, b] = some t) : notStar a = true ∧ notStar b = true := by
  cases n with
  | zero => simp [tGs] at h
  | succ n =>
    simp only [tGs] at h
    split at h
    · rename_i ha
      split at h
      · rename_i e1 e2
        refine ⟨ha, ?_⟩
        cases n with
        | zero => simp [tGs] at e2
        | succ n =>
          simp only [tGs] at e2
          split at e2
          · rename_i hb; exact hb
          · cases e2
      · cases h
    · cases h
theorem pg_star {a b : Expr} {es : List Expr} {k : Nat} {pos : Pos} {t : TGs} (hh : X.A.handled = none) (he : ∃ p, es = [a, .Starred b p]) (na : notStar a = true) (nb : notStar b = true) (h : PGs X [a, b] t) : PG X (.Tuple es k pos) (cStarG X.K t) := by
  obtain ⟨p, rfl⟩ := he
  refine ⟨fun pins s σ H v u Q I r hw => ?_⟩
  obtain ⟨a1, x, xs, tp, rfl, hs, hz, hq⟩ := hw
  cases r
  have ea : assignEach [a, .Starred b p] X.env = [(false, assign a X.env), (true, assign b X.env)] := by rw [assign_star na]; rfl
  have eb : (assignEach [a, b] X.env).map (·.2) = [assign a X.env, assign b X.env] := by rw [assign_star na, assign_star nb]; rfl
  show wpAny _ _ (do standAt pos; unpack (.ref a1) (assignEach [a, .Starred b p] X.env)) _ _ s
  refine wpAny_bind (wpAny_standAt ?_)
  unfold unpack
  rw [ea]
  refine wpAny_bind (wpAny_holding (star_unpack hh I hs hz fun u D s' ru hD I' => ?_))
  have z := h.run pins s' σ _ [x, .ref D] [u, .ref D] _ I' (.cons ru (.cons rfl .nil)) (hq D hD)
  rw [eb] at z
  exact z
mutual
theorem tG_ok (c : COk g lev X N sc W) (h : SE X W f) (ho1 : ∀ x, okc x = true → X.fn x = true) : ∀ (n : Nat) (e : Expr) (t : WX → TG), tG g.K f N sc okc n e = some t → PG X e (t W)
  | 0, e, t, q => by simp [tG] at q
  | n + 1, e, t, q => by
    cases e with
    | Name x pos =>
      simp only [tG] at q
      split at q
      · split at q
        · rename_i hk
          obtain ⟨i, hi, rfl⟩ := Option.map_eq_some_iff.mp q
          exact pg_nm c hk (.inl rfl) (.inr rfl) hi
        · rename_i hk
          split at q
          · rename_i ok
            obtain ⟨i, hi, rfl⟩ := Option.map_eq_some_iff.mp q
            exact pg_nm c hk (.inr rfl) (.inl (ho1 _ ok)) hi
          · cases q
        · cases q
      · cases q
    | Tuple es kk pos =>
      simp only [tG] at q
      split at q
      · rename_i hs
        obtain ⟨u, hu, rfl⟩ := Option.map_eq_some_iff.mp q
        have z := tGs_ok c h ho1 n es _ hu
        refine ⟨fun pins s σ H v w Q I r hw => (pg_tup c.calm z assign_len (assign_none hs)).run pins s σ H v w Q I r ?_⟩
        simp only [cTupG] at hw
        split at hw
        · split at hw
          · rename_i e; exact ⟨_, _, rfl, by rw [c.hK]; exact look_tup e, hw.1, hw.2⟩
          · exact hw.elim
        · exact hw.elim
      · split at q
        · rename_i a b ho
          obtain ⟨u, hu, rfl⟩ := Option.map_eq_some_iff.mp q
          have z := tGs_ok c h ho1 n _ _ hu
          rw [← c.hK]
          exact pg_star c.room.hd (starOf_ok ho) (tGs_star hu).1 (tGs_star hu).2 z
        · cases q
    | Subscript o i pos =>
      simp only [tG] at q
      split at q
      · rename_i hs
        split at q
        · rename_i e1 e2
          cases q
          refine pg_sub (h _ _ e1) (h _ _ e2) (r_set c.hu1) ?_
          intro v
          cases i <;> first | rfl | exact absurd hs Bool.false_ne_true
        · cases q
      · cases q
    | _ => simp [tG] at q
theorem tGs_ok (c : COk g lev X N sc W) (h : SE X W f) (ho : ∀ x, okc x = true → X.fn x = true) : ∀ (n : Nat) (es : List Expr) (t : WX → TGs), tGs g.K f N sc okc n es = some t → PGs X es (t W)
  | 0, e, t, q => by simp [tGs] at q
  | n + 1, [], t, q => by
    simp only [tGs] at q
    cases q
    exact pgs_nil
  | n + 1, e :: es, t, q => by
    simp only [tGs] at q
    split at q
    · rename_i hs
      split at q
      · rename_i e1 e2
        cases q
        exact pgs_cons (tG_ok c h ho n e _ e1) (tGs_ok c h ho n es _ e2) (by rw [assign_star hs]; rfl)
      · cases q
    · cases q
end
end
end WR

set_option Elab.async false
set_option linter.all false
set_option maxRecDepth 100000
set_option maxHeartbeats 4000000
namespace WR
open PySem PySem.Spec PyProof.Rows L2

/-! ## 18. expressions, tests, comprehensions: the whole translation -/
def isTup : Expr → Bool
  | .Tuple _ _ _ => true
  | _ => false
theorem isTup_ex {e : Expr} (h : isTup e = true) : ∃ a b c, e = .Tuple a b c := by
  cases e <;> first | exact ⟨_, _, _, rfl⟩ | exact absurd h Bool.false_ne_true
def tI1 (g : G) (f : Expr → OE) (sc : Scope) (tg : Expr) : Expr → Option (WX → TI)
  | .Call (.Name x _) es [] _ =>
    if sc.names.lookup x = some .globalImplicit ∧ x ∈ g.blt then
      (if x = "range" then (match es, tArgs f es with
        | [_], some t => some fun W => cRng1 (t W)
        | [_, _], some t => some fun W => cRng2 (t W)
        | [_, _, _], some t => some fun W => cRng3 (t W)
        | _, _ => none)
      else if x = "enumerate" ∧ isTup tg = true then (match es, tArgs f es with
        | [_], some t => some fun W => cEnum g.K (t W)
        | _, _ => none)
      else if x = "zip" ∧ isTup tg = true then (match es, tArgs f es with
        | [_, _], some t => some fun W => cZip g.K (t W)
        | _, _ => none)
      else if x = "reversed" then (match es, tArgs f es with
        | [_], some t => some fun W => cRev g.K (t W)
        | _, _ => none)
      else none)
    else none
  | .Call (.Attribute e m apos) [] [] cpos =>
    if baseOk e = true ∧ (apos.endLine == cpos.line) = true then (match f e with
      | some t => if m = "keys" then some fun W => cDview 0 (frzE (t W)) else if m = "values" then some fun W => cDview 1 (frzE (t W)) else if m = "items" ∧ isTup tg = true then some fun W => cDview 2 (frzE (t W)) else none
      | none => none)
    else none
  | _ => none
/-- enumerate(x, start=k) -/
def tI2 (g : G) (f : Expr → OE) (sc : Scope) (tg : Expr) : Expr → Option (WX → TI)
  | .Call (.Name x _) [a] [k] _ => if x = "enumerate" ∧ isTup tg = true ∧ sc.names.lookup x = some .globalImplicit ∧ x ∈ g.blt ∧ kwNames [k] = some [Str.ofString "start"] then (match tArgs f [a], tKws f [k] with
    | some t, some tk => some fun W => cEnumK g.K (t W) (tk W)
    | _, _ => none) else none
  | _ => none
def tI (g : G) (f : Expr → OE) (sc : Scope) (tg iter : Expr) : Option (WX → TI) :=
  if notSet iter = true then (match tI1 g f sc tg iter with
    | some t => some t
    | none => match tI2 g f sc tg iter with
    | some t => some t
    | none => (f iter).map fun t W => cIter g.K (frzE (t W)))
  else none
def ownOf (N : List Str) (scope : Scope) : List (Str × Nat) := scope.names.filterMap fun y => match y.2 with
  | .local | .cell => (ix? N y.1).map fun i => (y.1, i)
  | _ => none
def tIfs (f : Expr → Option (WX → TT)) : List Expr → Option (WX → TT)
  | [] => some fun _ => tYes
  | [e] => f e
  | _ => none
def okBlk (scope : Scope) (x : Str) : Bool := scope.names.lookup x == some .cell
/-- a comprehension, the dict that it may walk locked -/
def cLcL (wi : TI) (g : TG) (tt : TT) (te : TE) (vs : List Nat) : TE := fun σ H Q => cLc wi g tt te vs σ H Q ∨ tLockE (cLc wi g tt te vs) σ H Q
def cDcL (wi : TI) (g : TG) (tt : TT) (tk tv : TE) (vs : List Nat) : TE := fun σ H Q => cDc wi g tt tk tv vs σ H Q ∨ tLockE (cDc wi g tt tk tv vs) σ H Q
def tArts (f : Expr → OE) : List Expr → Option (List (WX → TE))
  | [] => some []
  | e :: es => match f e, tArts f es with
      | some te, some t => some (te :: t)
      | _, _ => none
def plainTest : Expr → Bool
  | .Name _ _ | .Call _ _ _ _ | .Attribute _ _ _ | .Subscript _ _ _ | .Constant _ _ _ | .BinOp _ _ _ _ => true
  | _ => false
def isM1 : Expr → Bool
  | .UnaryOp .USub (.Constant (.int i) _ _) _ => i == 1
  | _ => false
theorem isM1_ok {e : Expr} (h : isM1 e = true) : ∃ k p1 p2, e = .UnaryOp .USub (.Constant (.int 1) k p1) p2 := by
  unfold isM1 at h
  split at h
  · rw [beq_iff_eq] at h
    subst h
    exact ⟨_, _, _, rfl⟩
  · cases h
mutual
def tE (g : G) : Nat → List Str → Scope → Expr → OE
  | 0, _, _, _ => none
  | n + 1, N, sc, e => match e with
    | .Constant c _ _ => (match c with
      | .int i => some fun _ => tC (.int i)
      | .bool b => some fun _ => tC (.bl b)
      | .none => some fun _ => tC .non
      | .str s => some fun _ => tC (.str s)
      | _ => none)
    | .Name x _ => (tName g N sc x).map fun t _ => t
    | .BinOp a op b _ => (match opR g.K op, tE g n N sc a, tE g n N sc b with
      | some r, some ta, some tb => some fun W => tOp r (ta W) (tb W)
      | _, _, _ => none)
    | .Compare a [op] [b] _ => if notSet b = true then (match cmpR g op, tE g n N sc a, tE g n N sc b with
      | some r, some ta, some tb => some fun W => tOp r (ta W) (tb W)
      | _, _, _ => none) else none
    | .Compare a [op, op'] [b, c] _ => if notSet c = true then (match cmpR g op, cmpR g op', tE g n N sc a, tE g n N sc b, tE g n N sc c with
      | some r, some r', some ta, some tb, some tc => some fun W => cChain r r' (ta W) (tb W) (tc W)
      | _, _, _, _, _ => none) else none
    | .BoolOp .And es _ => tBool g.K (tE g n N sc) true es
    | .BoolOp .Or es _ => tBool g.K (tE g n N sc) false es
    | .UnaryOp .Not a _ => (tE g n N sc a).map fun t W => cNot g.K (t W)
    | .UnaryOp .USub a _ => (tE g n N sc a).map fun t W => cUn (t W)
    | .IfExp c a b _ => (match tT g n N sc c, tE g n N sc a, tE g n N sc b with
      | some tc, some ta, some tb => some fun W => tIf (tc W) (ta W) (tb W)
      | _, _, _ => none)
    | .Call (.Name x _) es kws _ => (match tLam g (tE g n) N sc x es kws with
      | some t => some t
      | none => match tSortF g (tE g n N sc) sc x es kws with
      | some t => some t
      | none => match tListV g (tE g n N sc) sc x es kws with
      | some t => some t
      | none => (match tKeyed g (tE g n N sc) sc x es kws with
        | some t => some t
        | none => tCallName g (tE g n N sc) sc x es kws))
    | .Call (.Attribute o m apos) es kws pos => if baseOk o = true ∧ (apos.endLine == pos.line) = true ∧ es.length + kws.length < 29 then
        (match kwNames kws, tE g n N sc o, tArgs (tE g n N sc) es, tKws (tE g n N sc) kws with
        | some ks, some ta, some t, some tk => some fun W => cMeth g.K m es.length ks.length (g.mts.filter fun i => decide (i.name = m) && decide (i.n = es.length) && decide (i.ks = ks)) ((bms g.K).filter fun b => decide (b.name = m)) (ta W) (t W) (tk W) W
        | _, _, _, _ => none) else none
    | .List es _ => (tArgs (tE g n N sc) es).map fun t W => tLst (t W)
    | .Tuple es _ _ => (tArgs (tE g n N sc) es).map fun t W => tTup (t W)
    | .Dict ks vs _ => tDict (tE g n N sc) ks vs
    | .Subscript a (.Slice lo hi none _) _ => (match tE g n N sc a, tPartO (tE g n N sc) lo, tPartO (tE g n N sc) hi with
      | some ta, some tl, some th => some fun W => tSl (oSl g.K) (ta W) (tl W) (th W)
      | _, _, _ => none)
    | .Subscript a (.Slice none none (some st) _) _ => if isM1 st = true then (tE g n N sc a).map fun t W => cRevS g.K (t W) else none
    | .Subscript a b _ => if notSlice b = true then (match tE g n N sc a, tE g n N sc b with
      | some ta, some tb => some fun W => tOp (oIx g.K) (ta W) (tb W)
      | _, _ => none) else none
    | .Attribute o a _ => if baseOk o = true then (match g.ats.lookup a, tE g n N sc o with
      | some cs, some to => some fun W => cAttr cs a (to W)
      | _, _ => none) else none
    | .ListComp elt [⟨tg, iter, ifs, 0⟩] scope _ =>
      if blkC N sc scope (ownOf N scope) = true then
        (match tI g (tE g n N sc) sc tg iter, tG g.K (tE g n N (relS scope sc)) N (relS scope sc) (okBlk scope) 12 tg, tIfs (tT g n N (relS scope sc)) ifs, tE g n N (relS scope sc) elt with
        | some wi, some gt, some tt, some te => some fun W => cLcL (wi W) (gt wNone) (tt wNone) (te wNone) ((ownOf N scope).map (·.2))
        | _, _, _, _ => none)
      else none
    | .DictComp kx vx [⟨tg, iter, ifs, 0⟩] scope _ =>
      if blkC N sc scope (ownOf N scope) = true then
        (match tI g (tE g n N sc) sc tg iter, tG g.K (tE g n N (relS scope sc)) N (relS scope sc) (okBlk scope) 12 tg, tIfs (tT g n N (relS scope sc)) ifs, tE g n N (relS scope sc) kx, tE g n N (relS scope sc) vx with
        | some wi, some gt, some tt, some tk, some tv => some fun W => cDcL (wi W) (gt wNone) (tt wNone) (tk wNone) (tv wNone) ((ownOf N scope).map (·.2))
        | _, _, _, _, _ => none)
      else none
    | .FormattedValue e cv none _ => if cv = -1 then (tE g n N sc e).map fun t W => cFmt (t W) else if cv = 114 then (tE g n N sc e).map fun t W => cFmtR g.K (t W) else none
    | .JoinedStr (e1 :: e2 :: es) _ => (tArts (tE g n N sc) (e1 :: e2 :: es)).map fun ts W σ H Q => cJs (ts.map fun t => t W) Str.empty σ H fun out H1 => Q (.str out) H1
    | .JoinedStr [e1] _ => tE g n N sc e1
    | _ => none
def tT (g : G) : Nat → List Str → Scope → Expr → Option (WX → TT)
  | 0, _, _, _ => none
  | n + 1, N, sc, e => match e with
    | .Compare a [op] [b] _ => if notSet b = true then (match cmpR g op, tE g n N sc a, tE g n N sc b with
      | some r, some ta, some tb => some fun W => cTest (tOp r (ta W) (tb W))
      | _, _, _ => none) else none
    | .Compare a [op, op'] [b, c] _ => if notSet c = true then (match cmpR g op, cmpR g op', tE g n N sc a, tE g n N sc b, tE g n N sc c with
      | some r, some r', some ta, some tb, some tc => some fun W => cTest (cChain r r' (ta W) (tb W) (tc W))
      | _, _, _, _, _ => none) else none
    | .BoolOp .And es _ => tBoolT (tT g n N sc) true es
    | .BoolOp .Or es _ => tBoolT (tT g n N sc) false es
    | .UnaryOp .Not a _ => (tT g n N sc a).map fun t W => tNot (t W)
    | e => if plainTest e = true then (tE g n N sc e).map fun t W => cTru g.K (t W) else none
end
section
variable {g : G} {lev : Nat} {X : Cx} {N : List Str} {sc : Scope} {W : WX} {f : Expr → OE}
theorem tI1_ok (c : COk g lev X N sc W) (h : SE X W f) {tg iter : Expr} {t : WX → TI} (q : tI1 g f sc tg iter = some t) : PI X tg iter (t W) := by
  unfold tI1 at q
  split at q
  · rename_i x p es pos
    split at q
    · rename_i hx
      have hg : Gl X x := by unfold Gl Env.kindOf; rw [c.hsc]; exact hx.1
      have hm := c.gok.blt x hx.2
      split at q
      · rename_i e
        subst e
        split at q
        · rename_i e1; cases q
          obtain ⟨p1, p2, p3⟩ := tArgs_ok h e1
          simp only [List.all_cons, List.all_nil, Bool.and_true] at p2
          exact pi_rng1' hg hm p2 p1
        · rename_i e1; cases q
          obtain ⟨p1, p2, p3⟩ := tArgs_ok h e1
          simp only [List.all_cons, List.all_nil, Bool.and_true, Bool.and_eq_true] at p2
          exact pi_rng2' hg hm p2.1 p2.2 p1
        · rename_i e1; cases q
          obtain ⟨p1, p2, p3⟩ := tArgs_ok h e1
          simp only [List.all_cons, List.all_nil, Bool.and_true, Bool.and_eq_true] at p2
          exact pi_rng3' hg hm p2.1 p2.2.1 p2.2.2 p1
        · cases q
      · split at q
        · rename_i e
          obtain ⟨rfl, ht⟩ := e
          obtain ⟨a, b, d, rfl⟩ := isTup_ex ht
          split at q
          · rename_i e1; cases q
            obtain ⟨p1, p2, p3⟩ := tArgs_ok h e1
            simp only [List.all_cons, List.all_nil, Bool.and_true] at p2
            rw [← c.hK]
            exact pi_enum' hg hm p2 p1
          · cases q
        · split at q
          · rename_i e
            obtain ⟨rfl, ht⟩ := e
            obtain ⟨a, b, d, rfl⟩ := isTup_ex ht
            split at q
            · rename_i e1; cases q
              obtain ⟨p1, p2, p3⟩ := tArgs_ok h e1
              simp only [List.all_cons, List.all_nil, Bool.and_true, Bool.and_eq_true] at p2
              rw [← c.hK]
              exact pi_zip' hg hm p2.1 p2.2 p1
            · cases q
          · split at q
            · rename_i e
              subst e
              split at q
              · rename_i e1; cases q
                obtain ⟨p1, p2, p3⟩ := tArgs_ok h e1
                simp only [List.all_cons, List.all_nil, Bool.and_true] at p2
                rw [← c.hK]
                exact pi_rev' hg hm p2 p1
              · cases q
            · cases q
    · cases q
  · split at q
    · rename_i hb
      split at q
      · rename_i e1
        split at q
        · rename_i em; cases q; exact pi_view' (pe_frz (h _ _ e1)) hb.1 hb.2 (.inl ⟨em, rfl⟩)
        · split at q
          · rename_i em; cases q; exact pi_view' (pe_frz (h _ _ e1)) hb.1 hb.2 (.inr (.inl ⟨em, rfl⟩))
          · split at q
            · rename_i em; cases q; exact pi_view' (pe_frz (h _ _ e1)) hb.1 hb.2 (.inr (.inr ⟨em.1, rfl, isTup_ex em.2⟩))
            · cases q
      · cases q
    · cases q
  · cases q
theorem notSet_f {iter : Expr} {env : Env} {x : Value} (h : notSet iter = true) : foldedSetIterable iter env x = pure x := by
  cases iter <;> first | rfl | exact absurd h Bool.false_ne_true
theorem tI2_ok (c : COk g lev X N sc W) (h : SE X W f) {tg iter : Expr} {t : WX → TI} (q : tI2 g f sc tg iter = some t) : PI X tg iter (t W) := by
  unfold tI2 at q
  split at q
  · split at q
    · rename_i hc
      obtain ⟨rfl, ht, h1, h2, h3⟩ := hc
      obtain ⟨_, _, _, rfl⟩ := isTup_ex ht
      split at q
      · rename_i e1 e2
        cases q
        obtain ⟨a1, a2, a3⟩ := tArgs_ok h e1
        obtain ⟨b1, b2⟩ := tKws_ok h e2
        simp only [List.all_cons, List.all_nil, Bool.and_true] at a2
        rw [← c.hK]
        exact pi_enumK (by unfold Gl Env.kindOf; rw [c.hsc]; exact h1) (c.gok.blt _ h2) a2 h3 a1 b1
      · cases q
    · cases q
  · cases q
theorem tI_ok (c : COk g lev X N sc W) (h : SE X W f) {tg iter : Expr} {t : WX → TI} (q : tI g f sc tg iter = some t) : PI X tg iter (t W) ∧ notSet iter = true := by
  unfold tI at q
  split at q
  · rename_i hs
    refine ⟨?_, hs⟩
    split at q
    · rename_i e; cases q; exact tI1_ok c h e
    · split at q
      · rename_i e; cases q; exact tI2_ok c h e
      · obtain ⟨u, hu, rfl⟩ := Option.map_eq_some_iff.mp q
        rw [← c.hK]
        exact pi_dyn (pe_frz (h _ _ hu))
  · cases q
theorem tIfs_ok {f : Expr → Option (WX → TT)} (h : ST X W f) : ∀ {es : List Expr} {t : WX → TT}, tIfs f es = some t → PTs X es (t W)
  | [], t, q => by cases q; exact pts_nil
  | [e], t, q => pts_one (h _ _ q)
  | _ :: _ :: _, t, q => by simp [tIfs] at q
theorem cok_blk (c : COk g lev X N sc W) {scope : Scope} {s : Shared} {H : Hp} {C : Addr} {cl : List (Str × Addr)} {fp : List Addr} : COk g lev (X.blk s H scope (compEnvC scope cl C X.env) fp) N (relS scope sc) wNone where
  gok := c.gok
  hK := c.hK
  hN := c.hN
  hsc := by
    have : (compEnvC scope cl C X.env).scope = relS scope X.env.scope := rfl
    exact this.trans (by rw [c.hsc])
  nd := c.nd
  calm := c.calm
  tk := takes0
  room := c.room
  gd := c.gd
  room2 := c.room2
  lam := fun p h e => (c.lam p h e).imp (fun a => ⟨a.tb, a.code, a.qual, a.mem, a.uni⟩) id
theorem opR_ok (c : COk g lev X N sc W) {op : Operator} {r : R2} (h : opR g.K op = some r) : OpR X (binaryOp op) r := by
  unfold opR at h
  rw [← c.hK] at h
  split at h <;> cases h
  · exact r_add
  · exact r_sub
  · exact r_mul
  · exact r_fdiv
  · exact r_mod
  · exact r_pow
  · exact r_shl
  · exact r_bor
theorem cmpR_ok (c : COk g lev X N sc W) {op : CmpOp} {r : R2} (h : cmpR g op = some r) : OpR X (compareOp op) r := by
  have hu := c.hu
  have hu5 : X.A.units + 65 < cLine := by have := c.room.un; omega
  unfold cmpR at h
  split at h <;> cases h
  · rw [← c.hK]; exact r_ltK hu5
  · exact r_le
  · rw [← c.hK]; exact r_gtK (by omega)
  · rw [← c.hK]; exact r_geK (by omega)
  · exact r_eqG c (by rw [← c.hK]; exact r_eq hu)
  · exact r_neG c (by rw [← c.hK]; exact r_ne hu)
  · rw [← c.hK]; exact r_in hu5
  · rw [← c.hK]; exact r_notin hu5
  · exact r_is
  · exact r_isnot
theorem notSlice_ix {b : Expr} (h : notSlice b = true) : PlainIx b := fun o i => by
  cases b <;> first | rfl | exact absurd h Bool.false_ne_true
end
end WR

set_option Elab.async false
set_option linter.all false
set_option maxRecDepth 100000
set_option maxHeartbeats 4000000
namespace WR
open PySem PySem.Spec PyProof.Rows L2
section
variable {g : G} {lev : Nat} {X : Cx} {N : List Str} {sc : Scope} {W : WX} {f : Expr → OE}
theorem lpd_W {J : It} {g : TG} {tt : TT} {tk tv : TE} {vs : List Nat} {σ : St} {D : Addr} {Q : VK} {H1 : Hp} (h : ∃ n, lpd J g tt tk tv vs σ D Q n 0 H1) :
    ∃ W : Nat → Nat → Hp → Prop, (∃ m, W 0 m H1) ∧ ∀ i m H, W i m H →
      (J.stop i H ∧ Q (.ref D) H) ∨ (J.go i H ∧ ∃ Nx : Hp → Prop, (∀ H', Nx H' → ∃ m', m' < m ∧ W (i + 1) m' H') ∧ ∀ x H', J.yld i H x H' → g x (wipe σ vs) H' fun σ2 H2 => wipe σ2 vs = wipe σ vs ∧ tt σ2 H2 fun b H3 =>
        if b = true then tk σ2 H3 fun y H4 => tv σ2 H4 fun z H5 => ∃ kvs k, y = kV k ∧ H5 D = some (.dK kvs) ∧ kvs.length < sizeLine ∧ Nx (upd H5 D (.dK (putK kvs k z))) else Nx H3) := by
  obtain ⟨n, h⟩ := h
  refine ⟨fun i m H => lpd J g tt tk tv vs σ D Q m i H, ⟨n, h⟩, fun i m H w => ?_⟩
  cases m with
  | zero => exact .inl w
  | succ m =>
    rcases w with w | ⟨go, w⟩
    · exact .inl w
    · exact .inr ⟨go, lpd J g tt tk tv vs σ D Q m (i + 1), fun H' q => ⟨m, Nat.lt_succ_self _, q⟩, w⟩
theorem pe_fmt' {e : Expr} {te : TE} {pos : Pos} (he : PE X e te) : PE X (.FormattedValue e (-1) none pos) (cFmt te) :=
  PE_imp (pe_fmt (PE_up he)) fun σ H Q h => ⟨_, h, fun x H1 q => by
    try dsimp only at q
    split at q
    · exact .inl ⟨_, rfl, q⟩
    · exact .inr ⟨_, rfl, q⟩
    · exact q.elim⟩
theorem tArts_ok {f : Expr → OE} (h : SE X W f) : ∀ {es : List Expr} {ts : List (WX → TE)}, tArts f es = some ts → PJ X es (ts.map fun t => upE (t W))
  | [], ts, e => by cases e; exact .nil
  | e :: es, ts, q => by
    unfold tArts at q
    split at q
    · rename_i te tr e1 e2
      cases q
      exact .cons (PE_up (h _ _ e1)) (tArts_ok h e2)
    · cases q
theorem cJs_up {Wt : WX} : ∀ {ts : List (WX → TE)} {acc : Str} {σ : St} {H : Hp} {Q : Str → Hp → Prop}, cJs (ts.map fun t => t Wt) acc σ H Q → tJs (ts.map fun t => upE (t Wt)) acc σ H Q
  | [], acc, σ, H, Q, h => h
  | t :: ts, acc, σ, H, Q, h => ⟨_, h, fun x H1 q => by
    try dsimp only at q
    split at q
    · exact ⟨_, rfl, q.1, cJs_up q.2⟩
    · exact q.elim⟩
theorem pe_joined' {e1 e2 : Expr} {es : List Expr} {pos : Pos} {ts : List (WX → TE)} (h : PJ X (e1 :: e2 :: es) (ts.map fun t => upE (t W))) : PE X (.JoinedStr (e1 :: e2 :: es) pos) (fun σ H Q => cJs (ts.map fun t => t W) Str.empty σ H fun out H1 => Q (.str out) H1) :=
  PE_imp (pe_joined h) fun σ H Q q => cJs_up q
theorem bltR_ok (c : COk g lev X N sc W) {x : Str} {v : Value} {r : RC} (h : bltR g x = some (v, r)) : CallR X v r ∧ Keeps X v := by
  have hc := c.calm
  have hm := PySem.mem_of_lookup (show (bltTab g).lookup x = some (v, r) from h)
  simp only [bltTab, List.mem_cons, List.not_mem_nil, or_false, Prod.mk.injEq] at hm
  rcases hm with ⟨_, rfl, rfl⟩ | ⟨_, rfl, rfl⟩ | ⟨_, rfl, rfl⟩ | ⟨_, rfl, rfl⟩ | ⟨_, rfl, rfl⟩ | ⟨_, rfl, rfl⟩ | ⟨_, rfl, rfl⟩ | ⟨_, rfl, rfl⟩ | ⟨_, rfl, rfl⟩ | ⟨_, rfl, rfl⟩ | ⟨_, rfl, rfl⟩ | ⟨_, rfl, rfl⟩ | ⟨_, rfl, rfl⟩ | ⟨_, rfl, rfl⟩ | ⟨_, rfl, rfl⟩ | ⟨_, rfl, rfl⟩ | ⟨_, rfl, rfl⟩ | ⟨_, rfl, rfl⟩
  all_goals try rw [← c.hK]
  · exact ⟨b_reprG c, keeps_blt⟩
  · exact ⟨b_lenG c (by rw [← c.hK]; exact b_len), keeps_blt⟩
  · exact ⟨b_isi, keeps_blt⟩
  · exact ⟨b_all hc, keeps_blt⟩
  · exact ⟨b_any hc, keeps_blt⟩
  · exact ⟨b_sum hc, keeps_blt⟩
  · exact ⟨b_abs, keeps_blt⟩
  · exact ⟨b_max hc, keeps_blt⟩
  · exact ⟨b_min hc, keeps_blt⟩
  · exact ⟨b_ord, keeps_blt⟩
  · exact ⟨b_int, keeps_ty⟩
  · exact ⟨b_strG c, keeps_ty⟩
  · exact ⟨b_list hc, keeps_ty⟩
  · exact ⟨b_tuple, keeps_ty⟩
  · exact ⟨b_dict hc, keeps_ty⟩
  · exact ⟨b_boolG c, keeps_ty⟩
  · exact ⟨b_sortedX hc c.hu, keeps_blt⟩
  · exact ⟨b_rng, keeps_ty⟩
theorem pe_blt {x : Str} {p pos : Pos} {es : List Expr} {t : TA} {v : Value} {r : RC} (hc : CallR X v r) (hk : Keeps X v) (hg : Gl X x) (hm : X.mg x = none) (hv : bootBuiltins x = some v) (hx : plainName x = true) (hnil : es = [] → t = tNil) (hst : es.all notStar = true) (ha : PA X es t) :
    PE X (.Call (.Name x p) es [] pos) (tCB r t) := by
  refine ⟨fun pins s σ H Q I h => ?_⟩
  refine wpAny_Call_Name_kw (ld_blt I hg hm hv ?_ (plain_n hx) (plain_d hx))
  refine args_of (tk := tNil) (ks := []) (first := []) (R := fun vs zs H2 => zs = [] ∧ r vs H2 Q) hk hnil hst rfl ha pk_nil I (?_ : t σ H fun vs H2 => tNil σ H2 fun zs H3 => zs = [] ∧ r vs H3 Q) fun vs zs us ws s2 H2 I2 r1 rz q => ?_
  · have e : (fun (vs : List V) (H2 : Hp) => tNil σ H2 fun zs H3 => zs = [] ∧ r vs H3 Q) = fun vs H2 => r vs H2 Q := by
      funext vs H2
      exact propext ⟨fun z => z.2, fun z => ⟨rfl, z⟩⟩
    rw [e]
    exact h
  · obtain ⟨rfl, q⟩ := q
    exact hc pins s2 σ H2 vs us Q I2 r1 q
theorem pe_mk (c : COk g lev X N sc W) {i : MkI} {p pos : Pos} {es : List Expr} {kws : List Keyword} {t tk : TA} (hi : i ∈ g.mks) (hn : i.n = es.length) (hks : kwNames kws = some i.ks) (hg : Gl X i.name) (hx : plainName i.name = true) (hnil : es = [] → t = tNil) (hst : es.all notStar = true) (ha : PA X es t) (hw : PK X kws tk) :
    PE X (.Call (.Name i.name p) es kws pos) (cMk i.cls es.length i.ks.length i.arr i.sp t tk W) := by
  obtain ⟨fa, fd, ps, gf, hm, M, F, kb⟩ := c.gok.mks i hi
  rw [← c.hK] at M F kb
  rw [hn] at kb
  refine ⟨fun pins s σ H Q I h => ?_⟩
  refine wpAny_Call_Name_kw (ld_glob I hg hm ?_ (plain_d hx))
  refine args_of (first := []) (R := fun vs zs H2 => vs.length = es.length ∧ zs.length = i.ks.length ∧ ∀ x dx, H2 x = none → H2 dx = none → dx ≠ x → i.sp (.ref x :: i.arr vs zs) (upd (upd H2 dx (.own x)) x (.ins i.cls dx [])) (fun v H3 => v = .non ∧ Q (.ref x) H3) (fun cls d H' => W cls d σ H')) (keeps_ref M.kp) hnil hst hks ha hw I h fun vs zs us ws s2 H2 I2 r rz q => ?_
  obtain ⟨l1, l2, q⟩ := q
  have hq := q (s2.heap.objs.size + 1) s2.heap.objs.size (I2.hok.fresh (Nat.le_succ _)) (I2.hok.fresh (Nat.le_refl _)) (Nat.ne_of_lt (Nat.lt_succ_self _))
  have I3 := Inv.made (C := i.cls) I2
  have r2 : Vals (V.ref (s2.heap.objs.size + 1) :: vs) (Value.ref (s2.heap.objs.size + 1) :: us) := .cons rfl r
  have r3 := kb.rel r2 rz
  have e1 : (Value.ref (s2.heap.objs.size + 1) :: us).length = es.length + 1 := r2.length.symm.trans (congrArg Nat.succ l1)
  have e2 : ws.length = i.ks.length := rz.length.symm.trans l2
  refine wpAny_call (make_map (f := fa) (kw := i.ks.zip ws) I2.kIn M.makes M.init (beq_iff_eq.mp M.fn) (codeAny_mono (F.run _ X.stack _ _ ⟨Value.ref (s2.heap.objs.size + 1) :: us, i.ks.zip ws⟩ (gf (Value.ref (s2.heap.objs.size + 1) :: us) ws) _ _ _ (c.room.make i.cls us (i.ks.zip ws)) (gd_make c.gd i.cls us (i.ks.zip ws))
    (I3.env0.make i.cls us (i.ks.zip ws)) (kb.to _ (Value.ref (s2.heap.objs.size + 1) :: us) ws I3.kIn e1 e2) r3 hq) fun r s' hq' => ?_))
  cases r with
  | error e => exact c.tk e s' (L2N.XE.of_call I3 (fun _ _ _ h => h) hq')
  | ok fl =>
    cases fl with
    | ret u =>
      obtain ⟨v, H', I4, rv, ev, q3⟩ := I3.after hq'
      subst ev
      exact ⟨rv, ⟨V.ref (s2.heap.objs.size + 1), H', I4, rfl, q3⟩⟩
    | next => exact False.elim hq'
    | brk => exact False.elim hq'
    | cont => exact False.elim hq'
theorem tCallName_ok (c : COk g lev X N sc W) (h : SE X W f) {x : Str} {p pos : Pos} {es : List Expr} {kws : List Keyword} {t : WX → TE} (q : tCallName g f sc x es kws = some t) : PE X (.Call (.Name x p) es kws pos) (t W) := by
  unfold tCallName at q
  split at q
  · rename_i hx
    have hg : Gl X x := by unfold Gl Env.kindOf; rw [c.hsc]; exact hx.2
    split at q
    · rename_i ks ta tk e1 e2 e3
      obtain ⟨a1, a2, a3⟩ := tArgs_ok h e2
      obtain ⟨b1, b2⟩ := tKws_ok h e3
      split at q
      · rename_i i ei
        cases q
        have hi := List.mem_of_find?_eq_some ei
        have hp := List.find?_some ei
        simp only [Bool.and_eq_true, decide_eq_true_eq] at hp
        obtain ⟨⟨p1, p2⟩, p3⟩ := hp
        obtain ⟨fa, fd, ps, gf, m1, m2, F, kb⟩ := c.gok.fns i hi
        rw [← c.hK] at m2 F kb
        rw [p1] at m1
        rw [p2, p3] at kb
        exact pe_own F c.room0 c.gd kb c.tk hg m1 m2 hx.1 a3 a2 e1 a1 b1
      · split at q
        · rename_i i ei
          cases q
          have hi := List.mem_of_find?_eq_some ei
          have hp := List.find?_some ei
          simp only [Bool.and_eq_true, decide_eq_true_eq] at hp
          obtain ⟨⟨p1, p2⟩, p3⟩ := hp
          subst p1 p3
          exact pe_mk c hi p2 e1 hg hx.1 a3 a2 a1 b1
        · split at q
          · rename_i hb
            obtain ⟨hb, rfl, hne⟩ := hb
            split at q
            · rename_i v r er
              split at q
              · rename_i hv
                cases q
                have o12 : CallR X v r ∧ Keeps X v := by
                  split at er
                  · rename_i D eD
                    cases er
                    refine ⟨b_isO c ?_, keeps_blt⟩
                    unfold isOwn at eD
                    split at eD
                    · split at eD
                      · exact List.mem_of_find?_eq_some eD
                      · cases eD
                    · cases eD
                  · exact bltR_ok c er
                obtain ⟨o1, o2⟩ := o12
                exact pe_blt o1 o2 hg (c.gok.blt x hb) hv hx.1 a3 a2 a1
              · cases q
            · cases q
          · cases q
    · cases q
  · cases q
theorem tListV_ok (c : COk g lev X N sc W) (h : SE X W f) {x : Str} {p pos : Pos} {es : List Expr} {kws : List Keyword} {t : WX → TE} (q : tListV g f sc x es kws = some t) : PE X (.Call (.Name x p) es kws pos) (t W) := by
  unfold tListV at q
  split at q
  · split at q
    · rename_i hc
      obtain ⟨rfl, rfl, hg, hb, ho, hl⟩ := hc
      have gl : Gl X "list" := by unfold Gl Env.kindOf; rw [c.hsc]; exact hg
      split at q
      · rename_i te e1
        split at q
        · rename_i em
          subst em
          cases q
          exact pe_listVals c.calm (h _ _ e1) gl (c.gok.blt _ hb) PyProof.Rows.Boot.«list» (base_of ho) hl
        · split at q
          · rename_i em
            subst em
            cases q
            exact LiI.pe_listItems c.calm (h _ _ e1) gl (c.gok.blt _ hb) PyProof.Rows.Boot.«list» (base_of ho) hl
          · cases q
      · cases q
    · cases q
  · split at q
    · rename_i hc
      obtain ⟨rfl, rfl, rfl, hg, hb, hg2, hb2, hs⟩ := hc
      split at q
      · rename_i te e1
        cases q
        rw [← c.hK]
        exact pe_listEnum c.room.hd (h _ _ e1) hs (by unfold Gl Env.kindOf; rw [c.hsc]; exact hg) (c.gok.blt _ hb) (by unfold Gl Env.kindOf; rw [c.hsc]; exact hg2) (c.gok.blt _ hb2)
      · cases q
    · split at q
      · rename_i hc
        obtain ⟨rfl, rfl, rfl, hg, hb, hg2, hb2, hs⟩ := hc
        split at q
        · rename_i te e1
          cases q
          rw [← c.hK]
          exact pe_lenSetK c.calm (by unfold Gl Env.kindOf; rw [c.hsc]; exact hg) (c.gok.blt _ hb) (by unfold Gl Env.kindOf; rw [c.hsc]; exact hg2) (c.gok.blt _ hb2) (h _ _ e1) hs
        · cases q
      · cases q
  · split at q
    · rename_i hc
      obtain ⟨rfl, rfl, rfl, hg, hb, hg2, hb2, hs1, hs2⟩ := hc
      split at q
      · rename_i te1 te2 e1 e2
        cases q
        rw [← c.hK]
        exact pe_listZip c.room.hd (pa_cons (h _ _ e1) (pa_cons (h _ _ e2) pa_nil (star_of hs2)) (star_of hs1)) hs1 hs2 (by unfold Gl Env.kindOf; rw [c.hsc]; exact hg) (c.gok.blt _ hb) (by unfold Gl Env.kindOf; rw [c.hsc]; exact hg2) (c.gok.blt _ hb2)
      · cases q
    · cases q
  · cases q
theorem tKeyed_ok (c : COk g lev X N sc W) (h : SE X W f) {x : Str} {p pos : Pos} {es : List Expr} {kws : List Keyword} {t : WX → TE} (q : tKeyed g f sc x es kws = some t) : PE X (.Call (.Name x p) es kws pos) (t W) := by
  unfold tKeyed at q
  split at q
  · split at q
    · rename_i hc
      obtain ⟨rfl, hx, hg, hb, hy, hp, hs⟩ := hc
      split at q
      · rename_i te i e1 ei
        cases q
        have hi := List.mem_of_find?_eq_some ei
        have hp2 := List.find?_some ei
        simp only [Bool.and_eq_true, decide_eq_true_eq] at hp2
        obtain ⟨⟨p1, p2⟩, p3⟩ := hp2
        subst p1
        exact pe_keyed c (decide (x = "max")) hi p2 p3 (by rcases hx with rfl | rfl <;> rfl) (by unfold Gl Env.kindOf; rw [c.hsc]; exact hg) (c.gok.blt x hb) (by unfold Gl Env.kindOf; rw [c.hsc]; exact hy) hp hs (h _ _ e1)
      · cases q
    · cases q
  · cases q
theorem cAttr_ok (c : COk g lev X N sc W) {o : Expr} {a : Str} {pos : Pos} {cs : List Addr} {to : TE} (hb : baseOk o = true) (hc : g.ats.lookup a = some cs) (ho : PE X o to) : PE X (.Attribute o a pos) (cAttr cs a to) := by
  refine PE_imp (pe_fld (PE_up ho) (base_of hb)) fun σ H Q h => ⟨_, h, fun x H1 q => ?_⟩
  try dsimp only at q
  split at q
  · rename_i p C fs e
    obtain ⟨hC, q⟩ := q
    obtain ⟨dx, rfl, ea⟩ := insOf_ok e
    obtain ⟨k1, k2⟩ := c.gok.ats _ (lookup_mem hc) C hC
    split at q
    · rename_i v ev
      rw [c.hK]
      exact ⟨_, _, _, _, v, rfl, ea, k1, k2, ev, q⟩
    · exact q.elim
  · exact q.elim
theorem tDict_ok (c : COk g lev X N sc W) (h : SE X W f) {ks : List (Option Expr)} {vs : List Expr} {pos : Pos} {t : WX → TE} (q : tDict f ks vs = some t) : PE X (.Dict ks vs pos) (t W) := by
  unfold tDict at q
  split at q
  · cases q; exact pe_dnewK
  · rename_i hne
    split at q
    · rename_i h15
      split at q
      · rename_i trs e
        cases q
        obtain ⟨p1, p2, p3⟩ := tPairs_ok h (pos := pos) e
        refine pe_disp p1 p2 p3 (fun z => ?_) h15
        subst z
        have : vs = [] := List.length_eq_zero_iff.mp p3.symm
        exact hne rfl this
      · cases q
    · cases q
end
theorem blk_fn {X : Cx} {scope : Scope} {s : Shared} {H : Hp} {cenv : Env} {fp : List Addr} : ∀ x, okBlk scope x = true → (X.blk s H scope cenv fp).fn x = true := fun x h => h

theorem plain_true {e : Expr} {env : Env} {whole : Sem Value} (h : plainTest e = true) : isTrue e env whole = (do let v ← whole; standAt e.pos; holding [v] (truthy v)) := by
  cases e <;> first | rfl | exact absurd h Bool.false_ne_true
theorem pe_orLock {X : Cx} {e : Expr} {t : TE} (h : PE X e t) : PE X e (fun σ H Q => t σ H Q ∨ tLockE t σ H Q) :=
  ⟨fun pins s σ H Q I q => q.elim (fun q => h.run pins s σ H Q I q) fun q => (pe_lock h).run pins s σ H Q I q⟩
/-- THE READING OF EXPRESSIONS IS RIGHT -/
theorem tET_ok (g : G) : ∀ (n : Nat), (∀ N sc e t, tE g n N sc e = some t → ∀ {lev X W}, COk g lev X N sc W → PE X e (t W)) ∧ (∀ N sc e t, tT g n N sc e = some t → ∀ {lev X W}, COk g lev X N sc W → PT X e (t W))
  | 0 => ⟨fun N sc e t q => by simp [tE] at q, fun N sc e t q => by simp [tT] at q⟩
  | n + 1 => by
    obtain ⟨ihE, ihT⟩ := tET_ok g n
    have seE : ∀ {N sc lev X W}, COk g lev X N sc W → SE X W (tE g n N sc) := fun c e t q => ihE _ _ e t q c
    have seT : ∀ {N sc lev X W}, COk g lev X N sc W → ST X W (tT g n N sc) := fun c e t q => ihT _ _ e t q c
    have hE : ∀ N sc e t, tE g (n + 1) N sc e = some t → ∀ {lev X W}, COk g lev X N sc W → PE X e (t W) := by
      intro N sc e t q lev X W c
      unfold tE at q
      split at q
      · split at q
        · cases q; exact pe_int
        · cases q; exact pe_bl
        · cases q; exact pe_non
        · cases q; exact pe_str
        · cases q
      · obtain ⟨u, hu, rfl⟩ := Option.map_eq_some_iff.mp q
        exact tName_ok hu c.b
      · split at q
        · rename_i e1 e2 e3
          cases q
          exact pe_op (opR_ok c e1) (ihE _ _ _ _ e2 c) (ihE _ _ _ _ e3 c)
        · cases q
      · split at q
        · rename_i hs
          split at q
          · rename_i e1 e2 e3
            cases q
            exact pe_cmpR (cmpR_ok c e1) (ihE _ _ _ _ e2 c) (ihE _ _ _ _ e3 c) (notSet_b hs)
          · cases q
        · cases q
      · split at q
        · rename_i hs
          split at q
          · rename_i e1 e2 e3 e4 e5
            cases q
            exact pe_chain' (cmpR_ok c e1) (cmpR_ok c e2) (ihE _ _ _ _ e3 c) (ihE _ _ _ _ e4 c) (ihE _ _ _ _ e5 c) (notSet_l hs)
          · cases q
        · cases q
      · rw [← c.hK] at q
        exact tBool_ok (seE c) true q
      · rw [← c.hK] at q
        exact tBool_ok (seE c) false q
      · obtain ⟨u, hu, rfl⟩ := Option.map_eq_some_iff.mp q
        rw [← c.hK]
        exact pe_not' (ihE _ _ _ _ hu c)
      · obtain ⟨u, hu, rfl⟩ := Option.map_eq_some_iff.mp q
        exact pe_neg' (ihE _ _ _ _ hu c)
      · split at q
        · rename_i e1 e2 e3
          cases q
          exact pe_ifExp (ihT _ _ _ _ e1 c) (ihE _ _ _ _ e2 c) (ihE _ _ _ _ e3 c)
        · cases q
      · split at q
        · rename_i e; cases q; exact tLam_ok c (seE c) (fun c' => seE c') e
        split at q
        · rename_i e; cases q; exact tSortF_ok c (seE c) e
        split at q
        · rename_i e; cases q; exact tListV_ok c (seE c) e
        · split at q
          · rename_i e; cases q; exact tKeyed_ok c (seE c) e
          · exact tCallName_ok c (seE c) q
      · split at q
        · rename_i hb
          split at q
          · rename_i e1 e2 e3 e4
            cases q
            obtain ⟨a1, a2, a3⟩ := tArgs_ok (seE c) e3
            obtain ⟨b1, b2⟩ := tKws_ok (seE c) e4
            refine pe_methG c hb.1 a2 e1 hb.2.2 hb.2.1 (fun i hi => ?_) (fun b hbm => ?_) a3 b2 (ihE _ _ _ _ e2 c) a1 b1
            · obtain ⟨z1, z2⟩ := List.mem_filter.mp hi
              simp only [Bool.and_eq_true, decide_eq_true_eq] at z2
              exact ⟨z1, z2.1.1, z2.1.2, z2.2⟩
            · obtain ⟨z1, z2⟩ := List.mem_filter.mp hbm
              rw [← c.hK] at z1
              exact ⟨bms_ok c.hu1 b z1, of_decide_eq_true z2⟩
          · cases q
        · cases q
      · obtain ⟨u, hu, rfl⟩ := Option.map_eq_some_iff.mp q
        exact pe_lst (tArgs_ok (seE c) hu).1
      · obtain ⟨u, hu, rfl⟩ := Option.map_eq_some_iff.mp q
        exact pe_tup (tArgs_ok (seE c) hu).1
      · exact tDict_ok c (seE c) q
      · split at q
        · rename_i e1 e2 e3
          cases q
          rw [← c.hK]
          exact pe_slice r_sl (ihE _ _ _ _ e1 c) (tPartO_ok (seE c) e2) (tPartO_ok (seE c) e3)
        · cases q
      · split at q
        · rename_i hm
          obtain ⟨u, hu, rfl⟩ := Option.map_eq_some_iff.mp q
          obtain ⟨k, p1, p2, rfl⟩ := isM1_ok hm
          rw [← c.hK]
          exact pe_revS (ihE _ _ _ _ hu c)
        · cases q
      · split at q
        · rename_i hs
          split at q
          · rename_i e1 e2
            cases q
            rw [← c.hK]
            exact pe_ix (r_ix c.hu1) (ihE _ _ _ _ e1 c) (ihE _ _ _ _ e2 c) (notSlice_ix hs)
          · cases q
        · cases q
      · split at q
        · rename_i hb
          split at q
          · rename_i e1 e2
            cases q
            exact cAttr_ok c hb e1 (ihE _ _ _ _ e2 c)
          · cases q
        · cases q
      · split at q
        · rename_i hb
          split at q
          · rename_i wi gt tt te e1 e2 e3 e4
            cases q
            obtain ⟨i1, i2⟩ := tI_ok c (seE c) e1
            have ok : BlkOk X.N X.env.scope _ _ := blkOk_by (by rw [c.hN, c.hsc]; exact hb)
            exact pe_orLock (PE_imp (pe_lc c.calm c.nd (PI_up i1) ok (fun s H C cl fp => tG_ok (cok_blk c) (seE (cok_blk c)) blk_fn 12 _ _ e2)
                (fun s H C cl fp => tIfs_ok (seT (cok_blk c)) e3) (fun s H C cl fp => ihE _ _ _ _ e4 (cok_blk c)) (fun x => notSet_f i2)) fun σ H Q h => ⟨_, h, fun J H' q D hD => lpc_W (q D hD)⟩)
          · cases q
        · cases q
      · split at q
        · rename_i hb
          split at q
          · rename_i wi gt tt tk tv e1 e2 e3 e4 e5
            cases q
            obtain ⟨i1, i2⟩ := tI_ok c (seE c) e1
            have ok : BlkOk X.N X.env.scope _ _ := blkOk_by (by rw [c.hN, c.hsc]; exact hb)
            exact pe_orLock (PE_imp (pe_dc c.calm c.nd (PI_up i1) ok (fun s H C cl fp => tG_ok (cok_blk c) (seE (cok_blk c)) blk_fn 12 _ _ e2)
                (fun s H C cl fp => tIfs_ok (seT (cok_blk c)) e3) (fun s H C cl fp => ihE _ _ _ _ e4 (cok_blk c)) (fun s H C cl fp => ihE _ _ _ _ e5 (cok_blk c)) (fun x => notSet_f i2)) fun σ H Q h => ⟨_, h, fun J H' q D hD => lpd_W (q D hD)⟩)
          · cases q
        · cases q
      · split at q
        · rename_i hv
          obtain ⟨u, hu, rfl⟩ := Option.map_eq_some_iff.mp q
          rw [hv]
          exact pe_fmt' (ihE _ _ _ _ hu c)
        · split at q
          · rename_i hv
            obtain ⟨u, hu, rfl⟩ := Option.map_eq_some_iff.mp q
            rw [hv, ← c.hK]
            exact pe_fmtRD c.gd c.hu (by rw [c.hK]; exact c.gok.sys) (ihE _ _ _ _ hu c)
          · cases q
      · obtain ⟨u, hu, rfl⟩ := Option.map_eq_some_iff.mp q
        exact pe_joined' (tArts_ok (seE c) hu)
      · exact pe_joined1 (ihE _ _ _ _ q c)
      · cases q
    refine ⟨hE, fun N sc e t q lev X W c => ?_⟩
    unfold tT at q
    split at q
    · split at q
      · rename_i hs
        split at q
        · rename_i e1 e2 e3
          cases q
          exact pt_cmp' (cmpR_ok c e1) (ihE _ _ _ _ e2 c) (ihE _ _ _ _ e3 c) (notSet_b hs)
        · cases q
      · cases q
    · split at q
      · rename_i hs
        split at q
        · rename_i e1 e2 e3 e4 e5
          cases q
          exact pt_chain' (cmpR_ok c e1) (cmpR_ok c e2) (ihE _ _ _ _ e3 c) (ihE _ _ _ _ e4 c) (ihE _ _ _ _ e5 c) (notSet_l hs)
        · cases q
      · cases q
    · exact (tBoolT_ok (seT c) true q).pt
    · exact (tBoolT_ok (seT c) false q).pt
    · obtain ⟨u, hu, rfl⟩ := Option.map_eq_some_iff.mp q
      exact pt_not (ihT _ _ _ _ hu c)
    · split at q
      · rename_i hp
        obtain ⟨u, hu, rfl⟩ := Option.map_eq_some_iff.mp q
        rw [← c.hK]
        exact pt_tru' (ihE _ _ _ _ hu c) fun whole => plain_true hp
      · cases q
end WR

set_option Elab.async false
set_option linter.all false
set_option maxRecDepth 100000
set_option maxHeartbeats 4000000
namespace WR
open PySem PySem.Spec PyProof.Rows L2

/-! ## 19. statements -/
def notComp : Expr → Bool
  | .ListComp _ _ _ _ | .SetComp _ _ _ _ | .DictComp _ _ _ _ _ => false
  | _ => true
theorem notComp_sw {e : Expr} {t : Option Expr} {l : Nat} {env : Env} (h : notComp e = true) : swapsWith e t l env = pure false := by
  cases e <;> first | rfl | exact absurd h Bool.false_ne_true
def oIAdd (K : PySem.W.Frag) : R2 := fun x y H Q => match x, y with
  | .int i, .int j => Q (.int (i + j)) H
  | .str a, .str b => a.length + b.length ≤ sizeLine ∧ Q (.str (a ++ b)) H
  | .ref l, .ref b => (match H l, H b with
    | some (.lst xs), some (.lst zs) => xs.length + zs.length ≤ sizeLine ∧ Q (.ref l) (upd H l (.lst (xs ++ zs)))
    | _, _ => False)
  | _, _ => False
def iopR (K : PySem.W.Frag) : Operator → Option R2
  | .Add => some (oIAdd K)
  | .Sub => some oSub
  | _ => none
section
variable {X : Cx}
theorem r_iadd : OpR X (inplaceOp .Add) (oIAdd X.K) := OpR_imp (iop_add.or (iop_add_str.or iop_ext)) fun x y H Q h => by
  unfold oIAdd at h
  split at h
  · exact .inl ⟨_, _, rfl, rfl, h⟩
  · exact .inr (.inl ⟨_, _, rfl, rfl, h.1, h.2⟩)
  · split at h
    · rename_i e f; exact .inr (.inr ⟨_, _, _, _, rfl, rfl, e, f, h.1, h.2⟩)
    · exact h.elim
  · exact h.elim
theorem r_isub : OpR X (inplaceOp .Sub) oSub := OpR_imp iop_sub fun x y H Q h => by
  unfold oSub at h
  split at h
  · exact ⟨_, _, rfl, rfl, h⟩
  · exact h.elim
end
/-- self.f = e -/
def cFldS (cands : List Addr) (f : Str) (ta tv : TE) : TS := fun D σ H => tv σ H fun y H1 => ta σ H1 fun x H2 => match x with
  | .ref a => (match H2 a with
    | some (.ins C dx fs) => C ∈ cands ∧ fs.length < 1000 ∧ D.nx σ (upd H2 a (.ins C dx (putF f y fs)))
    | _ => False)
  | _ => False
/-- self.f += e, whole numbers -/
def cFldAug (cands : List Addr) (f : Str) (sub : Bool) (ta tv : TE) : TS := fun D σ H => ta σ H fun x H1 => match x with
  | .ref a => (match H1 a with
    | some (.ins C dx fs) => C ∈ cands ∧ (match fs.lookup f with
      | some (.int i) => tv σ H1 fun y H2 => (match y with
        | .int j => (match H2 a with
          | some (.ins C' dx' fs') => C' = C ∧ fs'.length < 1000 ∧ D.nx σ (upd H2 a (.ins C dx' (putF f (.int (if sub then i - j else i + j)) fs')))
          | _ => False)
        | _ => False)
      | _ => False)
    | _ => False)
  | _ => False
def cPar (i j : Nat) (ta : TA) : TS := fun D σ H => ta σ H fun vs H1 => match vs with
  | [v, w] => D.nx ((σ.set i (some v)).set j (some w)) H1
  | _ => False
def cAug (i : Nat) (te : TE) (r : R2) : TS := fun D σ H => match σ[i]? with
  | some (some x) => te σ H fun y H1 => r x y H1 fun z H2 => D.nx (σ.set i (some z)) H2
  | _ => False
abbrev bad : WX → TS := fun _ => tNever
/-- what the stores of a, b = x, y are: plain local names on one line are stored from the right -/
def swR (sc : Scope) (ts vs : List Expr) : Option (Option (List Str)) :=
  if (!(ts.length == 2 || ts.length == 3) || vs.length != ts.length) = true then some none else
  if (vs.any fun | .Starred .. => true | _ => false) = true then some none else
  let names := ts.filterMap fun
    | .Name id pos => if (sc.names.lookup id == some .local && pos.line == (ts.head?.map (·.pos.line)).getD 0) = true then some id else none
    | _ => none
  if (names.length != ts.length || names.eraseDups.length != names.length) = true then some none else
  if vs.all (foldedForSure 8) = true then some none else
  if vs.all (constantsAlone 8) = true then none else some (some names)
theorem swR_ok {sc : Scope} {ts vs : List Expr} {r : Option (List Str)} {env : Env} {k k2 : Nat} {p p2 : Pos} (hb : env.blockKind = .function) (hs : env.scope = sc) (h : swR sc ts vs = some r) :
    swappedStores [.Tuple ts k p] (.Tuple vs k2 p2) env = pure r := by
  subst hs
  have hb' : (env.blockKind != ScopeKind.function) = false := by rw [hb]; rfl
  unfold swR at h
  unfold swappedStores
  simp only [hb', Bool.or_false]
  split at h
  · rename_i c; refine (if_pos c).trans ?_; cases h; rfl
  · rename_i c; refine (if_neg c).trans ?_
    split at h
    · rename_i c; refine (if_pos c).trans ?_; cases h; rfl
    · rename_i c; refine (if_neg c).trans ?_
      dsimp only at h
      split at h
      · rename_i c; refine (if_pos c).trans ?_; cases h; rfl
      · rename_i c; refine (if_neg c).trans ?_
        split at h
        · rename_i c; refine (if_pos c).trans ?_; cases h; rfl
        · rename_i c; refine (if_neg c).trans ?_
          split at h
          · cases h
          · rename_i c; refine (if_neg c).trans ?_; cases h; rfl
theorem sw_cond {elt : Expr} {gs : List Comprehension} {scope : Scope} {pos py : Pos} {y : Str} {l : Nat} {env : Env} :
    swapsWith (.ListComp elt gs scope pos) (some (.Name y py)) l env = pure (env.blockKind == .function && env.kindOf y == some .local && py.line == pos.line && !(scope.names.any fun (n, k) => n == y && (k == .local || k == .cell))) := rfl
end WR

set_option Elab.async false
set_option linter.all false
set_option maxRecDepth 100000
set_option maxHeartbeats 4000000
namespace WR
open PySem PySem.Spec PyProof.Rows L2

/-! ## try: body, and clauses except X [as n]: suite; a clause that is never reached may be anything -/
inductive ClR where
  | one (c : Value) (nm : Option Nat) (ts : Addr → Value → Option Addr → TS)
  | tup (cs : List Value) (nm : Option Nat) (ts : Addr → Value → Option Addr → TS)
  | dead
def endsN (nm : Option Nat) (D : Ends) : Ends := match nm with
  | some i => { nx := fun σ H => D.nx (σ.set i none) H, rt := D.rt, bk := fun σ H => D.bk (σ.set i none) H, ct := fun σ H => D.ct (σ.set i none) H }
  | none => D
def slotN (nm : Option Nat) (a : Addr) (σ : St) : St := match nm with
  | some i => σ.set i (some (.ref a))
  | none => σ
def wCl (K : PySem.W.Frag) (Wout : WX) (D : Ends) : List ClR → WX
  | [] => Wout
  | .one c nm ts :: r => fun cls d σ H => ∃ b, PySem.W.exmOne K cls c = some b ∧ (b = true → ∀ a, H a = none → ts a cls d (endsN nm D) (slotN nm a σ) H) ∧ (b = false → wCl K Wout D r cls d σ H)
  | .tup cs nm ts :: r => fun cls d σ H => ∃ b, PySem.W.exmAny K cls cs = some b ∧ (b = true → ∀ a, H a = none → ts a cls d (endsN nm D) (slotN nm a σ) H) ∧ (b = false → wCl K Wout D r cls d σ H)
  | .dead :: _ => fun _ _ _ _ => False
/-- what a clause names: one class, or a tuple of them -/
inductive ClN (X : Cx) : Expr → Value ⊕ List Value → Prop
  | one {x : Str} {c : Value} {p : Pos} (h : Names X x c) : ClN X (.Name x p) (.inl c)
  | tup {es : List Expr} {cs : List Value} {k : Nat} {p : Pos} (h : Paired (fun e c => ∃ x q, e = .Name x q ∧ Names X x c) es cs) (few : es.length ≤ 1000) : ClN X (.Tuple es k p) (.inr cs)
def clR (c : Value ⊕ List Value) (nm : Option Nat) (ts : Addr → Value → Option Addr → TS) : ClR := match c with
  | .inl c => .one c nm ts
  | .inr cs => .tup cs nm ts
def exmC (K : PySem.W.Frag) (cls : Value) (c : Value ⊕ List Value) : Option Bool := match c with
  | .inl c => PySem.W.exmOne K cls c
  | .inr cs => PySem.W.exmAny K cls cs
theorem wCl_r {K : PySem.W.Frag} {Wout : WX} {D : Ends} {c : Value ⊕ List Value} {nm : Option Nat} {ts : Addr → Value → Option Addr → TS} {r : List ClR} {cls : Value} {d : Option Addr} {σ : St} {H : Hp} (h : wCl K Wout D (clR c nm ts :: r) cls d σ H) :
    ∃ b, exmC K cls c = some b ∧ (b = true → ∀ a, H a = none → ts a cls d (endsN nm D) (slotN nm a σ) H) ∧ (b = false → wCl K Wout D r cls d σ H) := by
  cases c <;> exact h
inductive ClOk (X : Cx) : List ExceptHandler → List ClR → Prop
  | nil : ClOk X [] []
  | one {e : Expr} {c : Value ⊕ List Value} {ts : Addr → Value → Option Addr → TS} {b₀ : Stmt} {suite : List Stmt} {pos' : Pos} {hds : List ExceptHandler} {l : List ClR} (hc : ClN X e c)
      (hsu : ∀ (a : Addr) (oe : Obj) (cls : Value) (d : Option Addr) (pn : List (Addr × Obj)), HotB (X.suite a ((a, oe) :: pn)) (some (a, cls, d)) → PSs (X.suite a ((a, oe) :: pn)) (b₀ :: suite) (ts a cls d)) (r : ClOk X hds l) :
      ClOk X (.ExceptHandler (some e) none (b₀ :: suite) pos' :: hds) (clR c none ts :: l)
  | as_ {e : Expr} {n : Str} {c : Value ⊕ List Value} {i : Nat} {ts : Addr → Value → Option Addr → TS} {b₀ : Stmt} {suite : List Stmt} {pos' : Pos} {hds : List ExceptHandler} {l : List ClR} (hc : ClN X e c) (hi : X.N[i]? = some n) (hln : X.env.kindOf n = some .local)
      (hsu : ∀ (a : Addr) (oe : Obj) (cls : Value) (d : Option Addr) (pn : List (Addr × Obj)), HotB (X.suite a ((a, oe) :: pn)) (some (a, cls, d)) → PSs (X.suite a ((a, oe) :: pn)) (b₀ :: suite) (ts a cls d)) (r : ClOk X hds l) :
      ClOk X (.ExceptHandler (some e) (some n) (b₀ :: suite) pos' :: hds) (clR c (some i) ts :: l)
  | dead {hds : List ExceptHandler} {l : List ClR} : ClOk X hds (.dead :: l)
/-- a tuple's names, one by one -/
theorem names_tup {M : Model} {A : Around} {E : Value → Shared → Prop} {env : Env} {s : Shared} {pos : Pos} {P : Expr → Value → Prop} (ld : ∀ {e c} {Q : Value → Shared → Prop}, P e c → Q c s → wpAny M A (eval e env) Q E s) (st : ∀ {e c} {r : List Expr}, P e c → starEach (e :: r) env = (false, eval e env) :: starEach r env) :
    ∀ {es : List Expr} {cs : List Value} {Q : List Value → Shared → Prop}, Paired P es cs → Q cs s → wpAny M A (spliced (backTo pos (starEach es env))) Q E s
  | [], _, Q, h, q => by
    cases h
    exact wpAny_items_nil q
  | e :: es, _, Q, h, q => by
    cases h with
    | cons h1 h2 =>
      refine wpAny_items_cons (ld h1 ?_) (st h1)
      exact names_tup ld st h2 q
section
variable {X : Cx} {body : List Stmt} {h₀ : ExceptHandler} {hds : List ExceptHandler} {l : List ClR} {pos : Pos} {tb : WX → TS} {Wout : WX}
theorem ps_tryW (hs : X.stack = X.env :: X.outer) (hf : X.env.frame = some X.env.locals) (hN : X.N.Nodup) (tk : L2N.Takes X Wout)
    (hb : ∀ (W : WX) (pn : List (Addr × Obj)) (xe : Value → Shared → Prop), L2N.Takes (X.tr pn xe) W → PassesOwn (model X.prog X.w) X.A X.env xe → PSs (X.tr pn xe) body (tb W))
    (hh : ClOk X (h₀ :: hds) l) : PS X (.Try body (h₀ :: hds) [] [] pos) (fun D σ H => tb (wCl X.K Wout D l) D σ H) := by
  constructor
  intro pins s σ H D I want
  have ok := I.ok
  have frames : X.A.frames = some (X.env :: X.outer) := ok.frames.trans (congrArg some hs)
  apply wpAny_Try_except
  let look : Value → Shared → Prop := fun e s₁ => wpAny (model X.prog X.w) X.A (noteFrame e X.env) (fun _ s₂ => wpAny (model X.prog X.w) X.A (setFlight e none) (fun _ s₃ =>
    wpAny (model X.prog X.w) X.A (handleBy e X.env (h₀ :: hds)) (SP X pins D) X.xe s₃) X.xe s₂) X.xe s₁
  have caught : L2N.Takes (X.tr (X.pn ++ pins) look) (wCl X.K Wout D l) := by
    rintro u s' ⟨a, B, sI, pins', σ', H', cls, d, rfl, J', nb, up, sky, na, os, ag, wish⟩
    have J : Inv X pins σ' H' sI := J'.ofTry ok
    have sky2 : Sky B (X.env :: X.outer) a (L2N.Zn cls d) X.env.locals s'.heap := hs ▸ sky
    show wpAny (model X.prog X.w) X.A (noteFrame (.ref a) X.env) _ _ _
    apply L2N.Sky.land L2N.Zn.steady frames hf sky2
    -- the suite's state over any such heap
    have there : ∀ h3, HandSPX.FlyingZ B (X.env :: X.outer) a (L2N.Zn cls d) h3 → s'.heap.UpToSlots h3 → ∃ oe, Inv X pins σ' H' { s' with heap := h3 } ∧ HotB (X.suite a ((a, oe) :: (X.pn ++ pins))) (some (a, cls, d)) ∧ Inv (X.suite a ((a, oe) :: (X.pn ++ pins))) [] σ' H' { s' with heap := h3 } := by
      intro h3 fl3 up3
      have J3 : Inv X pins σ' H' { s' with heap := h3 } := J.landed nb fl3.1 (up.trans up3) os ag
      obtain ⟨oe3, vs3, he3, hz3, hd3⟩ := fl3.there
      have nfr : a ∉ frs (X.env :: X.outer) := fun m => by
        obtain ⟨_, o', e', nf⟩ := fl3.2.2.1.mem m
        rw [he3] at e'
        cases e'
        exact nf _ hd3
      have nL : a ≠ X.env.locals := by
        rintro rfl
        exact nfr (List.mem_filterMap.mpr ⟨X.env, List.mem_cons_self, hf⟩)
      have nF : a ∉ X.fs := fun m => by
        obtain ⟨e, he, q⟩ := List.mem_filterMap.mp m
        exact nfr (List.mem_filterMap.mpr ⟨e, List.mem_cons_of_mem _ he, q⟩)
      exact ⟨oe3, J3, ⟨oe3, ⟨rfl, vs3, hd3, hz3.2.2 vs3 hd3⟩, hz3, .inl List.mem_cons_self⟩, J3.suite he3 hd3 na nL nF⟩
    -- a clause's test
    have tests : ∀ {e : Expr} {c : Value ⊕ List Value} {b : Bool} {Q : Bool → Shared → Prop} {E : Value → Shared → Prop}, ClN X e c → ∀ h3, HandSPX.FlyingZ B (X.env :: X.outer) a (L2N.Zn cls d) h3 → s'.heap.UpToSlots h3 → exmC X.K cls c = some b →
        (∀ h4, HandSPX.FlyingZ B (X.env :: X.outer) a (L2N.Zn cls d) h4 → s'.heap.UpToSlots h4 → Q b { s' with heap := h4 }) →
        wpAny (model X.prog X.w) (X.A.mark (some (.ref a))) (eval e X.env) (fun v s1 => wpAny (model X.prog X.w) (X.A.mark (some (.ref a))) (excMatches (.ref a) v) Q E s1) E { s' with heap := h3 } := by
      intro e c b Q E hc h3 fl3 up3 eb q
      obtain ⟨oe3, J3, hot, S3⟩ := there h3 fl3 up3
      have z := fl3.there
      obtain ⟨oe4, vs4, he4, hz4, hd4⟩ := z
      have ty : PySem.W.Looks (model X.prog X.w) h3 (typeOf (.ref a)) cls := fun A Q E s k q => wpAny_typeOf_ref (k _ _ he4) (by rw [hz4.1]; exact q)
      have ld : ∀ {e : Expr} {c : Value} {Q : Value → Shared → Prop}, (∃ x q, e = .Name x q ∧ Names X x c) → Q c { s' with heap := h3 } → wpAny (model X.prog X.w) (X.A.mark (some (.ref a))) (eval e X.env) Q E { s' with heap := h3 } := by
        rintro _ c Q ⟨x, p, rfl, hg, nd, hm | ⟨hm, hv, hn⟩⟩ q
        · exact ld_glob (X := X.suite a ((a, oe3) :: (X.pn ++ pins))) S3 hg hm q nd
        · exact ld_blt (X := X.suite a ((a, oe3) :: (X.pn ++ pins))) S3 hg hm hv q hn nd
      cases hc with
      | @one x c p h => exact ld ⟨x, p, rfl, h⟩ ((PySem.W.exm_one (M := model X.prog X.w) J3.kIn ty eb).here (q h3 fl3 up3))
      | @tup es cs k p h few =>
        refine wpAny_Tuple (names_tup (P := fun e c => ∃ x q, e = .Name x q ∧ Names X x c) ld (fun h => ?_) h ⟨?_, ?_⟩)
        · obtain ⟨x, p, rfl, _⟩ := h
          rfl
        · rw [← h.length, sizeLine_eq]
          omega
        · have kp : ∀ b o, h3.get? b = some o → (h3.push { cls := .type "tuple", data := .seq cs.toArray }).get? b = some o := fun _ _ z => Heap.get?_push_of_some _ z
          exact (WRT.exm_tups (J3.kIn.keeps kp) (ty.keeps kp) (Heap.get?_push_size h3 rfl) eb).here (q _ (WRT.flying_keep kp fl3) (up3.trans (Heap.UpToSlots.of_keeps kp)))
    intro h3 fl3 up3
    have go : ∀ {hds' : List ExceptHandler} {l' : List ClR}, ClOk X hds' l' → ∀ h3, HandSPX.FlyingZ B (X.env :: X.outer) a (L2N.Zn cls d) h3 → s'.heap.UpToSlots h3 → wCl X.K Wout D l' cls d σ' H' → wpAny (model X.prog X.w) X.A (handleBy (.ref a) X.env hds') (SP X pins D) X.xe { s' with heap := h3 } := by
      intro hds' l' hk
      induction hk with
      | nil =>
        intro h3 fl3 up3 out
        apply wpAny_handleBy_nil
        obtain ⟨k1, k2, k3, oe, vs, T, oT, ts', he, hz, hd, h1, hr⟩ := id fl3
        unfold PySem.passOn
        apply wpAny_bind
        apply wpAny_field he hd h1
        rw [if_neg (show ¬ ((Value.ref T == Value.none) = true) from by simp)]
        have on : wpAny (model X.prog X.w) X.A (setFlight (.ref a) X.env.frame) (fun _ s4 => wpAny (model X.prog X.w) X.A (throw (.ref a) : Sem Flow) (SP X pins D) X.xe s4) X.xe { s' with heap := h3 } := by
          rw [hf]
          apply HandSPX.setFlight_upZ fl3
          intro h4 held up4
          apply wpAny_throw
          apply tk
          exact ⟨a, B, sI, pins, σ', H', cls, d, rfl, J, nb, (up.trans up3).trans up4, .inr (.inr (by rw [hs]; exact held)), na, os, ag, out⟩
        first
          | exact wpAny_bind (wpAny_pure (wpAny_bind on))
          | exact wpAny_bind on
      | @one e c ts b₀ suite pos' hds2 l2 hc hsu r ih =>
        intro h3 fl3 up3 w
        obtain ⟨b, eb, yes, no⟩ := wCl_r w
        refine wpAny_handleBy_cons (codeAny_handlers_test (tests hc h3 fl3 up3 eb fun h4 fl4 up4 => ?_)) (by intro q; cases q)
        cases b with
        | false => exact ih h4 fl4 up4 (no rfl)
        | true =>
          apply codeAny_handlers_suite
          apply HandSPX.lands_againZ fl4
          intro h5 fl5 up5
          obtain ⟨oe, J5, hot, S5⟩ := there h5 fl5 (up4.trans up5)
          refine wpAny_mono ((hsu a oe cls d (X.pn ++ pins) hot).run [] _ _ H' _ S5 (yes rfl a na)) ?_ (fun _ _ z => False.elim z)
          intro f s6 got
          match f, got with
          | .next, ⟨σ6, H6, S6, q6⟩ => exact ⟨_, _, S6.unsuite ok, q6⟩
          | .brk, ⟨σ6, H6, S6, q6⟩ => exact ⟨_, _, S6.unsuite ok, q6⟩
          | .cont, ⟨σ6, H6, S6, q6⟩ => exact ⟨_, _, S6.unsuite ok, q6⟩
          | .ret u, ⟨v6, σ6, H6, S6, r6, q6⟩ => exact ⟨_, _, _, S6.unsuite ok, r6, q6⟩
      | @as_ e n c i ts b₀ suite pos' hds2 l2 hc hi hln hsu r ih =>
        intro h3 fl3 up3 w
        obtain ⟨b, eb, yes, no⟩ := wCl_r w
        refine wpAny_handleBy_cons (codeAny_handlers_test (tests hc h3 fl3 up3 eb fun h4 fl4 up4 => ?_)) (by intro q; cases q)
        cases b with
        | false => exact ih h4 fl4 up4 (no rfl)
        | true =>
          apply codeAny_handlers_suite_as
          apply HandSPX.lands_againZ fl4
          intro h5 fl5 up5
          obtain ⟨oe, J5, hot, S5⟩ := there h5 fl5 (up4.trans up5)
          refine store_ok (X := X.suite a ((a, oe) :: (X.pn ++ pins))) (v := .ref a) S5 hN hi (.inl hln) rfl (fun s6 S6 => ?_) (.inr hln)
          refine wpAny_mono ((hsu a oe cls d (X.pn ++ pins) hot).run [] s6 _ H' _ S6 (yes rfl a na)) ?_ (fun _ _ z => False.elim z)
          intro f s6 got
          have off : ∀ {σ6 : St} {H6 : Hp} {Q : Shared → Prop}, Inv (X.suite a ((a, oe) :: (X.pn ++ pins))) [] σ6 H6 s6 → (∀ s7, Inv X pins (σ6.set i none) H6 s7 → Q s7) →
              wpAny (model X.prog X.w) X.A (do bindName X.env n .none; unbindBehindTheSuite X.env n pos') (fun _ s7 => Q s7) X.xe s6 := fun S6 q => gone_ok (S6.unsuite ok) hN hi hln q
          match f, got with
          | .next, ⟨σ6, H6, S6, q6⟩ => exact off S6 fun s7 J7 => ⟨_, _, J7, q6⟩
          | .brk, ⟨σ6, H6, S6, q6⟩ => exact off S6 fun s7 J7 => ⟨_, _, J7, q6⟩
          | .cont, ⟨σ6, H6, S6, q6⟩ => exact off S6 fun s7 J7 => ⟨_, _, J7, q6⟩
          | .ret u, ⟨v6, σ6, H6, S6, r6, q6⟩ => exact off S6 fun s7 J7 => ⟨_, _, _, J7, r6, q6⟩
      | dead =>
        intro h3 fl3 up3 z
        exact False.elim z
    exact go hh h3 fl3 up3 wish
  refine wpAny_mono ((hb (wCl X.K Wout D l) (X.pn ++ pins) look caught PassesOwn.looking).run [] s σ H D (I.toTry _) want) ?_ (fun _ _ z => z)
  intro f s1 got
  match f, got with
  | .next, ⟨σ', H', J, q⟩ => exact wpAny_execs_nil ⟨σ', H', J.ofTry ok, q⟩
  | .brk, ⟨σ', H', J, q⟩ => exact ⟨σ', H', J.ofTry ok, q⟩
  | .cont, ⟨σ', H', J, q⟩ => exact ⟨σ', H', J.ofTry ok, q⟩
  | .ret u, ⟨v, σ', H', J, r, q⟩ => exact ⟨v, σ', H', J.ofTry ok, r, q⟩
end
end WR

set_option Elab.async false
set_option linter.all false
set_option maxRecDepth 100000
set_option maxHeartbeats 4000000
namespace WRH
open PySem PySem.Spec PyProof.Rows HotX
section
variable {prog : Program} {w : World} {A : Around} {E : Value → Shared → Prop} {s : Shared}
theorem tuple_done {it t : Addr} {i : Nat} {items : Array Value} {Q : Option Value → Shared → Prop} (hot : HotOr A s.heap) (hit : s.heap.IsTupleIter it t i) (ht : s.heap.IsTuple t items) (hx : items[i]? = none)
    (hQ : ∀ h', (∀ b o, b ≠ it → s.heap.get? b = some o → h'.get? b = some o) → Q none { s with heap := h' }) : wpAny (model prog w) A (pyNext (.ref it)) Q E s := by
  obtain ⟨o, ho, hc, hd⟩ := id hit
  obtain ⟨ol, hol, _, nl, hdl⟩ := ht
  unfold pyNext; refine wpAny_bind (wpAny_attempt (wpAny_callSpecial?_slot (name := Str.ofString "__next__") hit.typeIs F.slot_tuple_iterator_next (wpAny_call_entry F.slot_tuple_iterator_next hit.typeIs F.entry_tuple_iterator_next ?_ (F.args_tuple_iterator_next_1 _))))
  show wpAny _ _ (field (.ref it) 0 >>= _) _ _ s; refine wpAny_bind (wpAny_field ho hd (x := .ref t) rfl ?_)
  show wpAny _ _ (if (Value.ref t == Value.none) = true then _ else _) _ _ s; rw [if_neg (show ¬ ((Value.ref t == Value.none) = true) from Bool.false_ne_true)]
  show wpAny _ _ (field (.ref it) 1 >>= _) _ _ s; refine wpAny_bind (wpAny_field ho hd (x := .int i 0) rfl ?_)
  show wpAny _ _ (seqItems? (.ref t) >>= _) _ _ s; refine wpAny_bind (wpAny_seqItems hol hdl ?_); simp only [Int.toNat_natCast, hx]
  refine wpAny_bind (wpAny_rule (wpAny_bind (wpAny_setField ho hd (by simp) ?_))); show wpAny _ _ (newExc (.type "StopIteration") [] >>= _) _ _ _
  refine stop_ (hot.keep ho hd (by simp) fun b o' n e => ((Heap.SameBut.update ..).2 b n).trans e) fun h' e k2 x => ?_
  exact of_stop (it := it) h' e (hQ _ fun b o' n z => k2 b o' (((Heap.SameBut.update ..).2 b n).trans z)) x
theorem unpack_done {env : Env} {elts : List Expr} {k : Nat} {pos : Pos} {t : Addr} {items : Array Value} {Q : Unit → Shared → Prop} (hot : HotOr A s.heap) (ht : s.heap.IsTuple t items) (hn : (assignEach elts env).length = items.size) (hstar : (assignEach elts env).findIdx? (·.1) = none)
    (h : ∀ h', (∀ b o, b ≠ s.heap.objs.size → s.heap.get? b = some o → h'.get? b = some o) → wpAny (model prog w) A (assignInOrder ((assignEach elts env).map (·.2)) items.toList) Q E { s with heap := h' }) : wpAny (model prog w) A (assign (.Tuple elts k pos) env (.ref t)) Q E s := by
  have ne : t ≠ s.heap.objs.size := by
    obtain ⟨o, ho, _⟩ := ht
    exact Nat.ne_of_lt (Heap.lt_size ho)
  rw [arm_assign_Tuple]
  refine wpAny_bind (wpAny_standAt ?_)
  unfold unpack; rw [hn, hstar]
  refine wpAny_bind (wpAny_holding ?_)
  unfold unpackItems notIterableAtAll
  refine wpAny_bind ?_; refine wpAny_bind (wpAny_specialOf ht.typeIs F.slot_tuple_iter.lookup ?_); refine wpAny_pure ?_; simp only [Bool.false_eq_true, if_false]
  refine wpAny_bind (wpAny_holding (wpAny_pyIter_tuple ht ?_))
  refine wpAny_bind (wpAny_holding (wpAny_draw_tuple ne items.size 0 _ _ ⟨_, Heap.get?_push_size _ rfl, rfl, rfl⟩ (ht.push _) (by omega) fun h₁ it₁ sb₁ => ?_))
  rw [show List.take items.size (List.drop 0 items.toList) = items.toList by rw [List.drop_zero]; exact List.take_of_length_le (by simp), if_neg (by simp)]
  have up : ∀ b o, b ≠ s.heap.objs.size → s.heap.get? b = some o → h₁.get? b = some o := fun b o n e => sb₁.extBut b o n (Heap.get?_push_of_some _ e)
  have hot1 : HotOr A h₁ := hot.imp id fun z => z.imp fun x y => hotAt_keep y fun o e => up x o (Nat.ne_of_lt (Heap.lt_size e)) e
  refine wpAny_bind (wpAny_holding (tuple_done hot1 it₁ ((ht.push _).extBut sb₁.extBut ne) (by simp) fun h₂ k₂ => ?_))
  simp only [Option.isSome_none, Bool.false_eq_true, if_false]
  exact wpAny_pure (h h₂ fun b o n e => k₂ b o n (up b o n e))
end
end WRH
namespace WR
open PySem PySem.Spec PyProof.Rows L2

/-! ## iterators and comprehensions, whether an exception is handled or not -/
structure TurnX (P : Program) (w : World) (K : PySem.W.Frag) (tg : Expr) (J : It) (fp : List Addr) (it : Addr) (tn : Nat → Heap → Prop) : Prop where
  mem : it ∈ fp
  obj : ∀ i h, tn i h → ∀ b ∈ fp, ∃ o, h.get? b = some o ∧ ∀ v, o.data ≠ .cell v
  keep : ∀ i h h', tn i h → (∀ b ∈ fp, ∀ o, h.get? b = some o → h'.get? b = some o) → tn i h'
  item : ∀ (X : Cx), X.prog = P → X.w = w → X.K = K → ∀ (i : Nat) (pins : List (Addr × Obj)) (s : Shared) (σ : St) (H : Hp) (E : Value → Shared → Prop), Inv X pins σ H s → (∀ b ∈ fp, FpOk X pins H b) → tn i s.heap → J.go i H →
    wpAny (model P w) X.A (pyNext (.ref it)) (fun r s1 => ∃ u, r = some u ∧ wpAny (model P w) X.A (letOwnedTupleGo tg (.ref it) u) (fun _ s2 => ∃ x H', Inv X pins σ H' s2 ∧ RelV x u ∧ J.yld i H x H' ∧ tn (i + 1) s2.heap ∧ ∀ b ∈ fp, H' b = none) E s1) E s
  done : ∀ (X : Cx) (xi : XI), X.prog = P → X.w = w → X.K = K → HotB X xi → ∀ (i : Nat) (pins : List (Addr × Obj)) (s : Shared) (σ : St) (H : Hp) (E : Value → Shared → Prop), Inv X pins σ H s → (∀ b ∈ fp, FpOk X pins H b) → tn i s.heap → J.stop i H →
    wpAny (model P w) X.A (pyNext (.ref it)) (fun r s1 => r = none ∧ Inv X pins σ H s1) E s
  self : ∀ (A : Around) (i : Nat) (s : Shared) (Q : Value → Shared → Prop) (E : Value → Shared → Prop), tn i s.heap → Q (.ref it) s → wpAny (model P w) A (pyIter (.ref it)) Q E s
section
variable {P : Program} {w : World} {K : PySem.W.Frag} {tg : Expr}
theorem turnX_list (a it : Addr) : TurnX P w K tg (Itl K a) [it] it (fun i h => h.IsListIter it a i) where
  mem := (turn_list (P := P) (w := w) (K := K) (tg := tg) a it).mem
  obj := (turn_list (P := P) (w := w) (K := K) (tg := tg) a it).obj
  keep := (turn_list (P := P) (w := w) (K := K) (tg := tg) a it).keep
  self := (turn_list (P := P) (w := w) (K := K) (tg := tg) a it).self
  item := by
    rintro X rfl rfl rfl i pins s σ H E I hf st ⟨xs, x, hq, hx⟩
    obtain ⟨its, rv, p, hz⟩ := I.list hq
    obtain ⟨u, hu, ru⟩ := rv.get hx
    obtain ⟨n0, n1, n2, n3, n4, n5⟩ := hf it List.mem_cons_self
    apply wpAny_pyNext_list_item st p.isList (x := u) (by simpa using hu)
    intro h' st' sb
    have J : Inv X pins σ H { s with heap := h' } := I.turned (t' := s.toks) (fun b o n e => (sb.2 b n).trans e) n0 n1 n3 n4 n5
    obtain ⟨o, e, c, d⟩ := id st'
    refine ⟨u, rfl, go_of (s := { s with heap := h' }) e c d (by decide) ⟨x, H, J, ru, ⟨rfl, fun ys hy => ?_⟩, st', fun b hb => (hf b hb).1⟩⟩
    rw [I.list_inj hy hq]
    exact hx
  done := by
    rintro X xi rfl rfl rfl hot i pins s σ H E I hf st ⟨xs, hq, hx⟩
    obtain ⟨its, rv, p, hz⟩ := I.list hq
    obtain ⟨n0, n1, n2, n3, n4, n5⟩ := hf it List.mem_cons_self
    have len := rv.length
    exact WRH.list_done (hot.or I) st p.isList (by simp; omega) fun h' k => ⟨rfl, I.turned (t' := s.toks) k n0 n1 n3 n4 n5⟩
theorem turnX_range (it : Addr) (lo : Int) (n : Nat) : TurnX P w K tg (Itr lo n) [it] it (fun i h => IsRangeIter h it (lo + (i : Nat) * 1) ((n : Int) - (i : Nat)) 1) where
  mem := (turn_range (P := P) (w := w) (K := K) (tg := tg) it lo n).mem
  obj := (turn_range (P := P) (w := w) (K := K) (tg := tg) it lo n).obj
  keep := (turn_range (P := P) (w := w) (K := K) (tg := tg) it lo n).keep
  self := (turn_range (P := P) (w := w) (K := K) (tg := tg) it lo n).self
  item := by
    rintro X rfl rfl rfl i pins s σ H E I hf st hg
    obtain ⟨n0, n1, n2, n3, n4, n5⟩ := hf it List.mem_cons_self
    have lt : i < n := hg
    apply wpAny_pyNext_range_item st (by omega)
    intro h' st' sb
    rw [show lo + ((i : Nat) : Int) * 1 + 1 = lo + ((i + 1 : Nat) : Int) * 1 by omega, show (n : Int) - ((i : Nat) : Int) - 1 = (n : Int) - ((i + 1 : Nat) : Int) by omega] at st'
    have J : Inv X pins σ H { s with heap := h', toks := s.toks + 1 } := I.turned (fun b o n e => (sb.2 b n).trans e) n0 n1 n3 n4 n5
    refine ⟨_, rfl, go_of (s := { s with heap := h', toks := s.toks + 1 }) (n := "range_iterator") st' rfl rfl (by decide) ⟨.int (lo + i), H, J, ⟨s.toks, ?_⟩, ⟨rfl, rfl⟩, st', fun b hb => (hf b hb).1⟩⟩
    rw [Int.mul_one]
  done := by
    rintro X xi rfl rfl rfl hot i pins s σ H E I hf st hg
    obtain ⟨n0, n1, n2, n3, n4, n5⟩ := hf it List.mem_cons_self
    have le : n ≤ i := hg
    exact WRH.range_done (hot.or I) st (by omega) fun h' k => ⟨rfl, I.turned (t' := s.toks) k n0 n1 n3 n4 n5⟩
theorem turnX_str (it : Addr) (x : Str) (t : Tok) (ty : String) (hty : ty = "str_ascii_iterator" ∨ ty = "str_iterator") : TurnX P w K tg (Its x) [it] it (fun i h => h.IsStrIter it ty x t i) where
  mem := (turn_str (P := P) (w := w) (K := K) (tg := tg) it x t ty hty).mem
  obj := (turn_str (P := P) (w := w) (K := K) (tg := tg) it x t ty hty).obj
  keep := (turn_str (P := P) (w := w) (K := K) (tg := tg) it x t ty hty).keep
  self := (turn_str (P := P) (w := w) (K := K) (tg := tg) it x t ty hty).self
  item := by
    rintro X rfl rfl rfl i pins s σ H E I hf st hg
    obtain ⟨n0, n1, n2, n3, n4, n5⟩ := hf it List.mem_cons_self
    have lt : i < x.cps.size := hg
    have hx : x.cps[i]? = some x.cps[i] := Array.getElem?_eq_getElem lt
    have fin : ∀ h', h'.IsStrIter it ty x t (i + 1) → Heap.SameBut it s.heap h' → ∃ u, some (Value.str ⟨#[x.cps[i]]⟩ s.toks) = some u ∧ wpAny (model X.prog X.w) X.A (letOwnedTupleGo tg (.ref it) u) (fun _ s2 => ∃ y H', Inv X pins σ H' s2 ∧ RelV y u ∧ (Its x).yld i H y H' ∧ s2.heap.IsStrIter it ty x t (i + 1) ∧ ∀ b ∈ [it], H' b = none) E { s with heap := h', toks := s.toks + 1 } := by
      intro h' st' sb
      have J : Inv X pins σ H { s with heap := h', toks := s.toks + 1 } := I.turned (fun b o n e => (sb.2 b n).trans e) n0 n1 n3 n4 n5
      obtain ⟨o, e, c, d⟩ := id st'
      refine ⟨_, rfl, go_of (s := { s with heap := h', toks := s.toks + 1 }) e c d (by rcases hty with z | z <;> rw [z] <;> decide) ⟨.str ⟨#[x.cps[i]]⟩, H, J, ⟨_, rfl⟩, ⟨rfl, _, hx, rfl⟩, st', fun b hb => (hf b hb).1⟩⟩
    rcases hty with z | z
    · subst z; exact wpAny_pyNext_ascii_item st hx fin
    · subst z; exact wpAny_pyNext_wide_item st hx fin
  done := by
    rintro X xi rfl rfl rfl hot i pins s σ H E I hf st hg
    obtain ⟨n0, n1, n2, n3, n4, n5⟩ := hf it List.mem_cons_self
    have hx : x.cps[i]? = none := Array.getElem?_eq_none hg
    rcases hty with z | z
    · subst z; exact WRH.ascii_done (hot.or I) st hx fun h' k => ⟨rfl, I.turned (t' := s.toks) k n0 n1 n3 n4 n5⟩
    · subst z; exact WRH.wide_done (hot.or I) st hx fun h' k => ⟨rfl, I.turned (t' := s.toks) k n0 n1 n3 n4 n5⟩
/-- the same where the first list is the first that ends -/
def ItzX (K : PySem.W.Frag) (a b : Addr) : It := ⟨(Itz K a b).go, (Itz K a b).yld, fun i H => ∃ xs ys : List V, SqL K H a xs ∧ SqL K H b ys ∧ xs.length ≤ i⟩
theorem turnX_zip {elts : List Expr} {kk : Nat} {tpos : Pos} {a b z TI TO i1 i2 : Addr} (D : ZipApart z TI TO i1 i2 a b) :
    TurnX P w K (.Tuple elts kk tpos) (ItzX K a b) [z, TI, TO, i1, i2] z (fun i h => IsZip h z TI TO .none ∧ IsPair h TI (.ref i1) (.ref i2) ∧ (∃ x y, IsPair h TO x y) ∧ h.IsListIter i1 a i ∧ h.IsListIter i2 b i) where
  mem := (turn_zip (P := P) (w := w) (K := K) (elts := elts) (kk := kk) (tpos := tpos) D).mem
  obj := (turn_zip (P := P) (w := w) (K := K) (elts := elts) (kk := kk) (tpos := tpos) D).obj
  keep := (turn_zip (P := P) (w := w) (K := K) (elts := elts) (kk := kk) (tpos := tpos) D).keep
  self := (turn_zip (P := P) (w := w) (K := K) (elts := elts) (kk := kk) (tpos := tpos) D).self
  item := by
    rintro X rfl rfl rfl i pins s σ H E I hf ⟨hz, hTI, ⟨x0, y0, hTO⟩, h1, h2⟩ ⟨xs, ys, x, y, qx, qy, hx, hy⟩
    obtain ⟨its, rv, p, _⟩ := I.list qx
    obtain ⟨its2, rv2, p2, _⟩ := I.list qy
    obtain ⟨u, hu, ru⟩ := rv.get hx
    obtain ⟨u2, hu2, ru2⟩ := rv2.get hy
    have five : ∀ {c : Addr}, c ∈ [z, TI, TO, i1, i2] → c = z ∨ c = TI ∨ c = TO ∨ c = i1 ∨ c = i2 := fun m => by simpa using m
    have below : ∀ c ∈ [z, TI, TO, i1, i2], c < s.heap.objs.size := by
      intro c m
      rcases five m with q | q | q | q | q <;> subst q
      · exact Heap.lt_size hz
      · exact Heap.lt_size hTI
      · exact Heap.lt_size hTO
      · obtain ⟨_, e1, _⟩ := h1; exact Heap.lt_size e1
      · obtain ⟨_, e2, _⟩ := h2; exact Heap.lt_size e2
    apply wpAny_pyNext_zip_item D hz hTI hTO h1 h2 p.isList p2.isList (x := u) (y := u2) (by simpa using hu) (by simpa using hu2)
    intro h' z' TO' h1' h2' hT hsz hk
    refine ⟨_, rfl, wpAny_letOwnedTupleGo_zip (s := { s with heap := h' }) z' fun h'' z'' sb => ?_⟩
    have hT2 : h''.get? s.heap.objs.size = some { cls := .type "tuple", data := .seq #[u, u2] } := (sb.2 _ (Nat.ne_of_gt (below z List.mem_cons_self))).trans hT
    have new : ObjOk X.prog X.w (upd H s.heap.objs.size (.tup [x, y])) h'' s.heap.objs.size (.tup [x, y]) := ⟨by show 2 ≤ sizeLine; decide, [u, u2], .cons ru (.cons ru2 .nil), ⟨_, hT2, rfl, _, rfl⟩⟩
    have up : ∀ c o, c ∉ [z, TI, TO, i1, i2] → s.heap.get? c = some o → h''.get? c = some o := fun c o n e =>
      (sb.2 c fun q => n (by simp [q])).trans (hk c o (fun q => n (by simp [q])) (fun q => n (by simp [q])) (fun q => n (by simp [q])) (fun q => n (by simp [q])) e)
    have J : Inv X pins σ (upd H s.heap.objs.size (.tup [x, y])) { s with heap := h'' } := I.turnedNew (t' := s.toks) (ch := [z, TI, TO, i1, i2]) up hf (Nat.le_refl _) new
    refine ⟨.ref s.heap.objs.size, _, J, rfl, ⟨_, x, y, rfl, I.hok.fresh (Nat.le_refl _), rfl, fun l hl => ?_, fun l hl => ?_⟩, ⟨z'', (sb.2 _ D.TIz).trans (hk _ _ D.TIz D.TITO D.TIi1 D.TIi2 hTI), ⟨u, u2, (sb.2 _ D.TOz).trans TO'⟩, h1'.at fun o q => (sb.2 _ D.i1z).trans q, h2'.at fun o q => (sb.2 _ D.i2z).trans q⟩, fun c m => ?_⟩
    · rw [I.list_inj hl qx]; exact hx
    · rw [I.list_inj hl qy]; exact hy
    · rw [upd_ne (Nat.ne_of_lt (below c m))]; exact (hf c m).1
  done := by
    rintro X xi rfl rfl rfl hot i pins s σ H E I hf ⟨hz, hTI, ⟨x0, y0, hTO⟩, h1, h2⟩ ⟨xs, ys, qx, qy, le⟩
    obtain ⟨its, rv, p, _⟩ := I.list qx
    have len := rv.length
    refine WRH.zip_done (k2 := 0) (hot.or I) D hz hTI hTO h1 p.isList (by simp; omega) fun h' hk => ⟨rfl, I.turnedL (t' := s.toks) (ch := [z, TI, TO, i1, i2]) (fun c o n e => ?_) hf⟩
    exact hk c o (fun q => n (by simp [q])) (fun q => n (by simp [q])) (fun q => n (by simp [q])) (fun q => n (by simp [q])) e
end
theorem pg_tupX {X : Cx} {xi : XI} {es : List Expr} {k : Nat} {pos : Pos} {t : TGs} {n : Nat} (hot : HotB X xi) (h : PGs X es t) (hn : (assignEach es X.env).length = n) (hst : (assignEach es X.env).findIdx? (·.1) = none) : PG X (.Tuple es k pos) (gTup X.K n t) := by
  refine ⟨fun pins s σ H v u Q I r hw => ?_⟩
  obtain ⟨a, xs, rfl, hq, hl, hw⟩ := hw
  cases r
  obtain ⟨its, rv, ht, hz⟩ := I.tuple hq
  refine WRH.unpack_done (hot.or I) (show s.heap.IsTuple a its.toArray from ht) (by simp [hn, ← hl, rv.length]) hst fun h' hx => ?_
  exact h.run pins _ σ H xs _ Q (I.kept (t' := s.toks) fun b o e => hx b o (Nat.ne_of_lt (Heap.lt_size e)) e) (by simpa using rv) hw
/-- an iterator has come -/
def PIEX (X : Cx) (pins : List (Addr × Obj)) (σ : St) (tg : Expr) (R : It → Hp → Prop) (itv : Value) (s2 : Shared) : Prop :=
  ∃ (it : Addr) (fp : List Addr) (tn : Nat → Heap → Prop) (J : It) (H' : Hp), itv = .ref it ∧ Inv X pins σ H' s2 ∧ TurnX X.prog X.w X.K tg J fp it tn ∧ tn 0 s2.heap ∧ (∀ b ∈ fp, FpOk X pins H' b) ∧ R J H'
structure PIX (X : Cx) (tg iter : Expr) (wi : TI) : Prop where
  run : ∀ (pins : List (Addr × Obj)) (s : Shared) (σ : St) (H : Hp) (R : It → Hp → Prop), Inv X pins σ H s → wi σ H R → wpAny (model X.prog X.w) X.A (eval iter X.env) (fun v s1 => wpAny (model X.prog X.w) X.A (pyIter v) (PIEX X pins σ tg R) X.xe s1) X.xe s
def hIter (K : PySem.W.Frag) (ta : TE) : TI := fun σ H R => ta σ H fun x H1 => match x with
  | .ref a => (match look K H1 a with
    | some (.lst _) => R (Itl K a) H1
    | _ => False)
  | .str z => R (Its z) H1
  | _ => False
def hZip (K : PySem.W.Frag) (ta : TA) : TI := fun σ H R => ta σ H fun vs H1 => match vs with
  | [.ref a, .ref b] => (match look K H1 a, look K H1 b with
    | some (.lst _), some (.lst _) => R (ItzX K a b) H1
    | _, _ => False)
  | _ => False
section
variable {X : Cx} {tg : Expr} {pins : List (Addr × Obj)} {σ : St} {H : Hp} {s : Shared}
theorem pix_one {it : Addr} {tn : Nat → Heap → Prop} {J : It} {R : It → Hp → Prop} {o : Obj} {tk : Nat} (I : Inv X pins σ H s) (hi : it = s.heap.objs.size) (T : TurnX X.prog X.w X.K tg J [it] it tn) (t0 : tn 0 (s.heap.push o)) (q : R J H) :
    PIEX X pins σ tg R (.ref it) { s with heap := s.heap.push o, toks := tk } := by
  subst hi
  refine ⟨_, [s.heap.objs.size], tn, J, H, rfl, I.kept (t' := tk) fun b o e => Heap.get?_push_of_some _ e, T, t0, fun b hb => ?_, q⟩
  obtain rfl : b = s.heap.objs.size := by simpa using hb
  exact I.fpOk (Nat.le_refl _) (I.hok.fresh (Nat.le_refl _))
theorem pix_dyn {l : Expr} {tl : TE} (hl : PE X l tl) : PIX X tg l (hIter X.K tl) := by
  refine ⟨fun pins s σ H R I h => ?_⟩
  refine thn (hl.run pins s σ H _ I h) fun v s1 ⟨x, H1, I1, r1, q1⟩ => ?_
  dsimp only at q1
  split at q1
  · rename_i a
    split at q1
    · rename_i xs e
      cases r1
      obtain ⟨its, rv, p, hz⟩ := I1.list (look_lst e)
      exact wpAny_pyIter_list p.isList (pix_one (tk := s1.toks) I1 rfl (turnX_list a _) ⟨_, Heap.get?_push_size _ rfl, rfl, rfl⟩ q1)
    · exact q1.elim
  · rename_i x
    obtain ⟨t, rfl⟩ := r1
    cases ha : x.cps.all (· < 128)
    · exact wpAny_pyIter_wide ha (pix_one (tk := s1.toks) I1 rfl (turnX_str _ x t "str_iterator" (.inr rfl)) ⟨_, Heap.get?_push_size _ rfl, rfl, rfl⟩ q1)
    · exact wpAny_pyIter_ascii ha (pix_one (tk := s1.toks) I1 rfl (turnX_str _ x t "str_ascii_iterator" (.inl rfl)) ⟨_, Heap.get?_push_size _ rfl, rfl, rfl⟩ q1)
  · exact q1.elim
theorem pix_rg {R : It → Hp → Prop} {E : Value → Shared → Prop} {j : Int} {t u v : Tok} {tk : Nat} (I : Inv X pins σ H s) (b1 : -(2 ^ 62) ≤ j) (b2 : j < 2 ^ 62) (q : R (Itr 0 j.toNat) H) :
    wpAny (model X.prog X.w) X.A (pyIter (.ref s.heap.objs.size)) (PIEX X pins σ tg R) E { s with heap := s.heap.push { cls := .type "range", data := .fields #[.int 0 t, .int j u, .int 1 v] }, toks := tk } := by
  refine wpAny_pyIter_range (IsRange.new ..) (small_one (by omega) (by omega) b1 b2) ?_
  have I2 : Inv X pins σ H { s with heap := s.heap.push { cls := .type "range", data := .fields #[.int 0 t, .int j u, .int 1 v] }, toks := tk } := I.kept fun b o e => Heap.get?_push_of_some _ e
  refine pix_one (s := { s with heap := s.heap.push { cls := .type "range", data := .fields #[.int 0 t, .int j u, .int 1 v] }, toks := tk }) (tk := tk) I2 rfl (turnX_range _ 0 j.toNat) ?_ q
  have e1 : (0 : Int) + ((0 : Nat) : Int) * 1 = 0 := by simp
  have e2 : ((j.toNat : Nat) : Int) - ((0 : Nat) : Int) = Builtin.Range.rangeSize 0 j 1 := by rw [rangeSize_one]; split <;> omega
  show IsRangeIter _ _ ((0 : Int) + ((0 : Nat) : Int) * 1) (((j.toNat : Nat) : Int) - ((0 : Nat) : Int)) 1
  rw [e1, e2]
  exact Heap.get?_push_size _ rfl
theorem pix_rng1 {a : Expr} {ta : TA} {p pos : Pos} (hg : Gl X "range") (hm : X.mg "range" = none) (h1 : notStar a = true) (ha : PA X [a] ta) : PIX X tg (.Call (.Name "range" p) [a] [] pos) (cRng1 ta) := by
  refine ⟨fun pins s σ H R I h => ?_⟩
  refine Call_ (ld_blt I hg hm boot_range (PyProof.Rows.callWith_type1 (thn (ha.run pos pins s σ H _ I h) fun us s1 ⟨vs, H1, I1, r1, q1⟩ => ?_) (star_of h1) rfl))
  dsimp only at q1
  split at q1
  · rename_i j
    obtain ⟨u, rfl, ru⟩ := vals1 r1
    obtain ⟨t, rfl⟩ := ru
    exact call_range_1 (pix_rg I1 q1.1.1 q1.1.2 q1.2)
  · exact q1.elim
theorem pix_zip {a b : Expr} {elts : List Expr} {kk : Nat} {ta : TA} {p pos tpos : Pos} (hg : Gl X "zip") (hm : X.mg "zip" = none) (h1 : notStar a = true) (h2 : notStar b = true) (ha : PA X [a, b] ta) : PIX X (.Tuple elts kk tpos) (.Call (.Name "zip" p) [a, b] [] pos) (hZip X.K ta) := by
  refine ⟨fun pins s σ H R I h => ?_⟩
  refine Call_ (ld_blt I hg hm PyProof.Rows.boot_zip (PyProof.Rows.callWith_type1 (thn (ha.run pos pins s σ H _ I h) fun us s1 ⟨vs, H1, I1, r1, q1⟩ => ?_) (star_of h1) (star_all (by rw [List.all_cons, h2]; rfl))))
  dsimp only at q1
  split at q1
  · rename_i la lb
    split at q1
    · rename_i xs ys e1 e2
      obtain ⟨u1, u2, rfl, r1', r2'⟩ := vals2 r1
      cases (show u1 = Value.ref la from r1')
      cases (show u2 = Value.ref lb from r2')
      obtain ⟨its, rv, p1, _⟩ := I1.list (look_lst e1)
      obtain ⟨its2, rv2, p2, _⟩ := I1.list (look_lst e2)
      apply call_zip_2 p1.isList p2.isList
      intro h' hz hTI hTO g1 g2 hsz hk
      apply wpAny_pyIter_zip hz
      have I2 : Inv X pins σ H1 { s1 with heap := h' } := I1.kept (t' := s1.toks) hk
      refine ⟨s1.heap.objs.size + 4, [s1.heap.objs.size + 4, s1.heap.objs.size + 2, s1.heap.objs.size + 3, s1.heap.objs.size, s1.heap.objs.size + 1], _, _, H1, rfl, I2, turnX_zip (PySem.W.ktu_apart s1.heap.objs.size la lb p1.lt p2.lt), ⟨hz, hTI, ⟨_, _, hTO⟩, g1, g2⟩, fun c m => ?_, q1⟩
      have le : s1.heap.objs.size ≤ c := by
        have q : c = s1.heap.objs.size + 4 ∨ c = s1.heap.objs.size + 2 ∨ c = s1.heap.objs.size + 3 ∨ c = s1.heap.objs.size ∨ c = s1.heap.objs.size + 1 := by simpa using m
        rcases q with q | q | q | q | q <;> rw [q] <;> first | exact Nat.le_refl _ | exact Nat.le_add_right _ _
      exact I1.fpOk le (I1.hok.fresh le)
    · exact q1.elim
  · exact q1.elim
end
end WR

set_option Elab.async false
set_option linter.all false
set_option maxRecDepth 100000
set_option maxHeartbeats 4000000
namespace WR
open PySem PySem.Spec PyProof.Rows L2

section
variable {X : Cx} {xi : XI}
/-- a comprehension's run: where its loop ends the list is used -/
theorem lcX_run {pins : List (Addr × Obj)} {s : Shared} {σ : St} {H : Hp} {Q : VK} {elt tg iter : Expr} {ifs : List Expr} {scope : Scope} {own : List (Str × Nat)} {pos pos' : Pos} {wi : TI} {g : TG} {tt : TT} {te : TE} {use : Option (Value → Sem Unit)} {Qf : Value → Shared → Prop}
    (hot : HotB X xi) (nd : X.N.Nodup) (I : Inv X pins σ H s) (walk : PIX X tg iter wi) (bk : BlkOk X.N X.env.scope scope own)
    (hg : ∀ (s : Shared) (H : Hp) (C : Addr) (cl : List (Str × Addr)) (fp : List Addr), HotB (X.blk s H scope (compEnvC scope cl C X.env) fp) xi → PG (X.blk s H scope (compEnvC scope cl C X.env) fp) tg g)
    (ht : ∀ (s : Shared) (H : Hp) (C : Addr) (cl : List (Str × Addr)) (fp : List Addr), HotB (X.blk s H scope (compEnvC scope cl C X.env) fp) xi → PTs (X.blk s H scope (compEnvC scope cl C X.env) fp) ifs tt)
    (he : ∀ (s : Shared) (H : Hp) (C : Addr) (cl : List (Str × Addr)) (fp : List Addr), HotB (X.blk s H scope (compEnvC scope cl C X.env) fp) xi → PE (X.blk s H scope (compEnvC scope cl C X.env) fp) elt te)
    (plain : ∀ x, foldedSetIterable iter X.env x = pure x) (want : tLc wi g tt te (own.map (·.2)) σ H Q)
    (back : ∀ L C s' m H', Inv X pins σ H' s' → Q (.ref L) H' → s'.heap.Ns C m → FpOk X pins H' C → compPost (model X.prog X.w) X.A X.xe use Qf (.ref L) C (.ok .next) s') :
    wpAny (model X.prog X.w) X.A (comprehension (.ListComp elt [⟨tg, iter, ifs, 0⟩] scope pos) scope X.env pos' (newList []) false (eval iter X.env) use) Qf X.xe s := by
  have cells : ∀ y ∈ scope.names, y.2 = .free → ∃ c, X.env.cells.lookup y.1 = some c := by
    intro y m e
    rcases bk.free y m e with k | k
    · exact I.ok.has _ (.inl k)
    · exact I.ok.has _ (.inr k)
  refine wpAny_comprehension_free (use := use) rfl plain (closure_ok cells) bk.kind (fun y m e => (bk.uniq y m).trans (by rw [e])) ?_
  refine thn (walk.run pins s σ H _ I want) fun xv sA hA => thn hA fun itv sB hB => ?_
  obtain ⟨it, fp, tn, J, HB, rfl, IB, T, tB, fB, turns⟩ := hB
  refine wpAny_newObj_type (newEnv_comp ?_) (by show 0 ≤ sizeLine; decide)
  -- the new list, then the block's frame
  obtain ⟨L, eL⟩ : ∃ L, L = sB.heap.objs.size := ⟨_, rfl⟩
  rw [← eL]
  obtain ⟨W, ⟨m0, w0⟩, turn⟩ := turns L (IB.hok.fresh (Nat.le_of_eq eL.symm))
  obtain ⟨sC, eC⟩ : ∃ sC : Shared, sC = { sB with heap := sB.heap.push { cls := .type "list", data := .seq ([] : List Value).toArray } } := ⟨_, rfl⟩
  have hC : sC.heap = sB.heap.push { cls := .type "list", data := .seq ([] : List Value).toArray } := by rw [eC]
  obtain ⟨HC, eH⟩ : ∃ HC : Hp, HC = upd HB L (.lst []) := ⟨_, rfl⟩
  have IC : Inv X pins σ HC sC := by
    rw [eC, eH]
    refine IB.laid (t' := sB.toks) (fun b o z => Heap.get?_push_of_some _ z) (Nat.le_of_eq eL.symm) ⟨Nat.zero_le _, [], 0, .nil, ?_⟩
    rw [eL]; exact Heap.get?_push_size _ rfl
  have old : ∀ b ∈ fp, b < sB.heap.objs.size := fun b m => let ⟨o, z, _⟩ := T.obj _ _ tB b m; Heap.lt_size z
  have fC : ∀ b ∈ fp, FpOk X pins HC b := fun b m => ⟨by rw [eH, upd_ne (by rw [eL]; exact Nat.ne_of_lt (old b m))]; exact (fB b m).1, (fB b m).2⟩
  have fC' : ∀ b ∈ fp, FpOk X pins HC b ∧ b < sC.heap.objs.size := fun b m => ⟨fC b m, by rw [hC, Heap.size_push]; exact Nat.lt_succ_of_lt (old b m)⟩
  have tC : tn 0 sC.heap := T.keep _ _ _ tB fun b _ o z => by rw [hC]; exact Heap.get?_push_of_some _ z
  have ID := block_start IC bk nd fC'
  rw [← eC]
  show codeAny _ _ (.compStart (.ListComp elt [⟨tg, iter, ifs, 0⟩] scope pos) 0 (.ref it) (.ref L) (compEnvC scope (cellsFrom (sC.heap.objs.size + 1) scope.names (cloFrom X.env.cells scope.names [])) sC.heap.objs.size X.env)) (compPost (model X.prog X.w) X.A X.xe use Qf (.ref L) sC.heap.objs.size) { sC with heap := pushCells (sC.heap.push { cls := .type "dict", data := .dict #[] }) scope.names }
  have hotD := hot.blk IC (scope := scope) (cenv := compEnvC scope (cellsFrom (sC.heap.objs.size + 1) scope.names (cloFrom X.env.cells scope.names [])) sC.heap.objs.size X.env) fC
  have rg := hg _ _ _ _ _ hotD
  have rt := ht _ _ _ _ _ hotD
  have re := he _ _ _ _ _ hotD
  have eloc : (compEnvC scope (cellsFrom (sC.heap.objs.size + 1) scope.names (cloFrom X.env.cells scope.names [])) sC.heap.objs.size X.env).locals = sC.heap.objs.size := rfl
  generalize compEnvC scope (cellsFrom (sC.heap.objs.size + 1) scope.names (cloFrom X.env.cells scope.names [])) sC.heap.objs.size X.env = ce at ID rg rt re hotD eloc ⊢
  obtain ⟨sD, eD⟩ : ∃ sD : Shared, sD = { sC with heap := pushCells (sC.heap.push { cls := .type "dict", data := .dict #[] }) scope.names } := ⟨_, rfl⟩
  rw [← eD] at ID ⊢
  have tD : tn 0 sD.heap := T.keep _ _ _ tC fun b _ o z => by rw [eD]; exact pushCells_keeps _ _ _ _ (Heap.get?_push_of_some _ z)
  rw [← eH] at w0
  have own_ : ∀ {σ' : St} {H' : Hp} {s' : Shared}, Inv (X.blk sC HC scope ce fp) [] σ' H' s' → (∀ b ∈ fp, H' b = none) → ∀ b ∈ fp, FpOk (X.blk sC HC scope ce fp) [] H' b := by
    intro σ' H' s' I' n b m
    exact ⟨n b m, (I'.ok.exf b m).1, I'.ok.exfs b m, .inl m, fun x c z => (I'.ok.exf b m).2 x c z, fun p hp => nomatch (show p ∈ ([] : List (Addr × Obj)) from hp)⟩
  have loop : codeAny (model X.prog X.w) X.A (.compLoop (.ListComp elt [⟨tg, iter, ifs, 0⟩] scope pos) 0 (.ref it) (.ref L) ce) (compPost (model X.prog X.w) X.A X.xe use Qf (.ref L) sC.heap.objs.size) sD := by
    refine compLoop_any (fun n s' => ∃ i H', Inv (X.blk sC HC scope ce fp) [] (wipe σ (own.map (·.2))) H' s' ∧ tn i s'.heap ∧ (∀ b ∈ fp, H' b = none) ∧ W i n H') ?_ m0 ⟨0, HC, ID, tD, fun b m => (fC b m).1, w0⟩
    rintro n s5 ⟨i, H5, I5, t5, n5, w5⟩
    cases turn i n H5 w5 with
    | inl z =>
      obtain ⟨stop, goal⟩ := z
      refine thnF (T.done (X.blk sC HC scope ce fp) xi rfl rfl rfl hotD i [] s5 _ H5 (fun _ _ => False) I5 (own_ I5 n5) t5 stop) fun r s6 hr => ?_
      obtain ⟨rfl, I6⟩ := hr
      have I7 : Inv X pins σ H5 s6 := IC.call' (ch := fp) I6.os I6.base I6.hok I6.bare fun b m => ⟨(fC b m).2.2.2.1, (fC b m).2.1, (fC b m).2.2.2.2.1, (fC b m).2.2.2.2.2⟩
      obtain ⟨mm, hn, _⟩ := I6.loc
      have hn' : s6.heap.Ns sC.heap.objs.size mm := eloc ▸ (show s6.heap.Ns ce.locals mm from hn)
      have nC : H5 sC.heap.objs.size = none := eloc ▸ (show H5 ce.locals = none from I6.free)
      exact back L _ s6 mm H5 I7 goal hn' (IC.fpOk (Nat.le_refl _) nC)
    | inr z =>
      obtain ⟨go, Nx, less, step⟩ := z
      refine thnF (T.item (X.blk sC HC scope ce fp) rfl rfl rfl i [] s5 _ H5 (fun _ _ => False) I5 (own_ I5 n5) t5 go) fun r s6 hr => ?_
      obtain ⟨u, rfl, h6⟩ := hr
      refine thnF h6 fun _ s7 h7 => ?_
      obtain ⟨x, H7, I7, r7, y7, t7, n7⟩ := h7
      have P7 := I7.pinned (own_ I7 n7) (T.obj _ _ t7)
      refine thnF (rg.run _ s7 _ H7 x u _ P7 r7 (step x H7 y7)) fun _ s8 h8 => ?_
      obtain ⟨σ8, H8, I8, e8, q8⟩ := h8
      refine thnF (rt.run _ s8 σ8 H8 _ I8 q8) fun b s9 h9 => ?_
      obtain ⟨H9, I9, q9⟩ := h9
      have again : ∀ {s' : Shared} {H' : Hp}, Inv (X.blk sC HC scope ce fp) ([] ++ pinsAt fp s7.heap) σ8 H' s' → Nx H' → ∃ m, m < n ∧ ∃ i H', Inv (X.blk sC HC scope ce fp) [] (wipe σ (own.map (·.2))) H' s' ∧ tn i s'.heap ∧ (∀ b ∈ fp, H' b = none) ∧ W i m H' := by
        intro s' H' I' nx
        obtain ⟨m', lt, w'⟩ := less H' nx
        have stay : ∀ b ∈ fp, ∀ o, s7.heap.get? b = some o → s'.heap.get? b = some o ∧ H' b = none := fun b m o z =>
          ⟨(I'.pin (b, o) (List.mem_append_right _ (List.mem_append_right _ (mem_pinsAt m z)))).1, (I'.pin (b, o) (List.mem_append_right _ (List.mem_append_right _ (mem_pinsAt m z)))).2.1⟩
        have len : (wipe σ (own.map (·.2))).length = σ8.length := by rw [← e8]; exact wipe_length ..
        refine ⟨m', lt, i + 1, H', (I'.unpinned (pins := [])).weak len (fun j v z => ?_), T.keep _ _ _ t7 fun b m o z => (stay b m o z).1, fun b m => ?_, w'⟩
        · rw [← e8] at z
          exact (wipe_some z).1
        · obtain ⟨o, z, _⟩ := T.obj _ _ t7 b m
          exact (stay b m o z).2
      match b, q9 with
      | false, q9 =>
        simp only [Bool.false_eq_true, if_false] at q9 ⊢
        exact again I9 q9
      | true, q9 =>
        simp only [if_true] at q9 ⊢
        refine thnF (re.run _ s9 σ8 H9 _ I9 q9) fun z s10 h10 => ?_
        obtain ⟨yv, H10, I10, r10, acc, hD, hz, nx⟩ := h10
        exact app_ok (X := X.blk sC HC scope ce fp) I10 hD hz r10 fun s11 I11 => again I11 nx
  exact codeAny_compStart_list loop (T.self X.A 0 _ _ _ tD loop)
/-- as a value -/
theorem pe_lcX {elt tg iter : Expr} {ifs : List Expr} {scope : Scope} {own : List (Str × Nat)} {pos : Pos} {wi : TI} {g : TG} {tt : TT} {te : TE} (hot : HotB X xi) (nd : X.N.Nodup) (walk : PIX X tg iter wi) (bk : BlkOk X.N X.env.scope scope own)
    (hg : ∀ (s : Shared) (H : Hp) (C : Addr) (cl : List (Str × Addr)) (fp : List Addr), HotB (X.blk s H scope (compEnvC scope cl C X.env) fp) xi → PG (X.blk s H scope (compEnvC scope cl C X.env) fp) tg g)
    (ht : ∀ (s : Shared) (H : Hp) (C : Addr) (cl : List (Str × Addr)) (fp : List Addr), HotB (X.blk s H scope (compEnvC scope cl C X.env) fp) xi → PTs (X.blk s H scope (compEnvC scope cl C X.env) fp) ifs tt)
    (he : ∀ (s : Shared) (H : Hp) (C : Addr) (cl : List (Str × Addr)) (fp : List Addr), HotB (X.blk s H scope (compEnvC scope cl C X.env) fp) xi → PE (X.blk s H scope (compEnvC scope cl C X.env) fp) elt te)
    (plain : ∀ x, foldedSetIterable iter X.env x = pure x) : PE X (.ListComp elt [⟨tg, iter, ifs, 0⟩] scope pos) (tLc wi g tt te (own.map (·.2))) := by
  constructor
  intro pins s σ H Q I want
  rw [eval_ListComp]
  refine lcX_run hot nd I walk bk hg ht he plain want ?_
  intro L C s' m H' I' goal hn f
  refine ⟨m, hn, fun h'' sb => ?_⟩
  obtain ⟨f0, f1, f2, f3, f4, f5⟩ := f
  exact ⟨.ref L, H', I'.turned (t' := s'.toks) (fun b o n z => (sb.2 b n).trans z) f0 f1 f3 f4 f5, rfl, goal⟩
/-- name = [..] on one line, the name a local -/
theorem ps_setLcX {i : Nat} {y : Str} {py : Pos} {elt tg iter : Expr} {ifs : List Expr} {scope : Scope} {own : List (Str × Nat)} {pos spos : Pos} {wi : TI} {g : TG} {tt : TT} {te : TE} (hot : HotB X xi) (nd : X.N.Nodup) (hy : X.N[i]? = some y) (loc : X.env.scope.names.lookup y = some .local)
    (swaps : swapsWith (.ListComp elt [⟨tg, iter, ifs, 0⟩] scope pos) (some (.Name y py)) spos.line X.env = pure true) (walk : PIX X tg iter wi) (bk : BlkOk X.N X.env.scope scope own)
    (hg : ∀ (s : Shared) (H : Hp) (C : Addr) (cl : List (Str × Addr)) (fp : List Addr), HotB (X.blk s H scope (compEnvC scope cl C X.env) fp) xi → PG (X.blk s H scope (compEnvC scope cl C X.env) fp) tg g)
    (ht : ∀ (s : Shared) (H : Hp) (C : Addr) (cl : List (Str × Addr)) (fp : List Addr), HotB (X.blk s H scope (compEnvC scope cl C X.env) fp) xi → PTs (X.blk s H scope (compEnvC scope cl C X.env) fp) ifs tt)
    (he : ∀ (s : Shared) (H : Hp) (C : Addr) (cl : List (Str × Addr)) (fp : List Addr), HotB (X.blk s H scope (compEnvC scope cl C X.env) fp) xi → PE (X.blk s H scope (compEnvC scope cl C X.env) fp) elt te)
    (plain : ∀ x, foldedSetIterable iter X.env x = pure x) : PS X (.Assign [.Name y py] (.ListComp elt [⟨tg, iter, ifs, 0⟩] scope pos) spos) (tAsg (tLc wi g tt te (own.map (·.2))) (gName i)) := by
  constructor
  intro pins s σ H D I want
  rw [exec_Assign_Name_used _ _ _ _ swaps]
  refine wpAny_bind (wpAny_standAt (wpAny_bind ?_))
  show wpAny _ X.A (do let _ ← comprehension (.ListComp elt [⟨tg, iter, ifs, 0⟩] scope pos) scope X.env (firstIterPos [⟨tg, iter, ifs, 0⟩] pos) (newList []) false (eval iter X.env) (some (assign (.Name y py) X.env))) _ _ s
  refine wpAny_bind (thn (lcX_run (Q := fun x H1 => gName i x σ H1 D.nx) (Qf := fun _ s' => SP X pins D .next s') hot nd I walk bk hg ht he plain want ?_) fun _ s' q => wpAny_pure (wpAny_pure q))
  intro L C s' m H' I' goal hn f
  show wpAny _ _ (assign (.Name y py) X.env (.ref L)) _ _ _
  obtain ⟨f0, f1, f2, f3, f4, f5⟩ := f
  refine wpAny_assign_Name (store_ok2 (v := V.ref L) I' nd hy (.inl loc) rfl (fun s2 I2 z => ?_) (.inr loc))
  obtain ⟨a, sb, ha⟩ := z
  have apart : C ≠ a := ha.elim (fun z => z ▸ f1) fun z e => f4 y a z e.symm
  exact ⟨m, hn.sameBut sb apart, fun h3 sb3 => ⟨_, H', I2.turned (t' := s2.toks) (fun b o n z => (sb3.2 b n).trans z) f0 f1 f3 f4 f5, goal⟩⟩
end
end WR

set_option Elab.async false
set_option linter.all false
set_option maxRecDepth 100000
set_option maxHeartbeats 4000000
namespace WR
open PySem PySem.Spec PyProof.Rows L2

/-! ## what an except suite may say -/
/-- e.f, e the caught exception (at a, of the class cls, its dict at d), slot i -/
def cXf (g : G) (i : Nat) (a : Addr) (cls : Value) (d : Option Addr) (f : Str) : TE := fun σ H Q => σ[i]? = some (some (.ref a)) ∧ ∃ x ∈ g.xcs, x.f = f ∧ cls = .ref x.C ∧ ∃ dd fs v, d = some dd ∧ H dd = some (.xd fs) ∧ fs.lookup f = some v ∧ Q v H
/-- the exception that a suite holds: its name, where it stands, its class, its dict -/
structure XeI where
  en : Str
  a : Addr
  cls : Value
  d : Option Addr
def xiOf (xe : Option XeI) : XI := xe.map fun i => (i.a, i.cls, i.d)
/-- builtins that ask nothing of the handled exception -/
def hBlt (g : G) : List (Str × (Value × RC)) := [("repr", .builtin "repr", bRepr g.K), ("len", .builtin "len", bLen g.K), ("isinstance", .builtin "isinstance", bIsi g.K), ("abs", .builtin "abs", bAbs), ("ord", .builtin "ord", bOrd), ("int", .type "int", bInt), ("tuple", .type "tuple", bTuple g.K)]
/-- == and != of data, dicts too -/
def oEqH (K : PySem.W.Frag) : R2 := fun x y H Q => oEq K x y H Q ∨ rEqDD K x y H Q
def oNeH (K : PySem.W.Frag) : R2 := fun x y H Q => oNe K x y H Q ∨ rNeDD K x y H Q
def hCmp (g : G) : CmpOp → Option R2
  | .Lt => some oLt
  | .LtE => some oLe
  | .Gt => some oGt
  | .GtE => some oGe
  | .Eq => some (oEqH g.K)
  | .NotEq => some (oNeH g.K)
  | .In => some (oIn g.K false)
  | .NotIn => some (oIn g.K true)
  | .Is => some oIs
  | .IsNot => some oIsNot
def hBin (g : G) : Operator → Option R2
  | .Add => some (oAdd g.K)
  | .Sub => some oSub
  | .Mult => some oMul
  | .FloorDiv => some oFdiv
  | .Mod => some oMod
  | _ => none
def hCallName (g : G) (f : Expr → OE) (sc : Scope) (xe : Option XeI) (x : Str) (es : List Expr) (kws : List Keyword) : OE :=
  if plainName x = true ∧ sc.names.lookup x = some .globalImplicit then
    match kwNames kws, tArgs f es, tKws f kws with
    | some ks, some t, some tk => match g.hfs.find? (fun i => decide (i.name = x) && decide (i.n = es.length) && decide (i.ks = ks)) with
      | some i => some fun W => cCall (i.sp (xiOf xe)) es.length ks.length i.arr (t W) (tk W) wNone
      | none => if x ∈ g.blt ∧ kws = [] ∧ es ≠ [] then match (hBlt g).lookup x with
          | some (v, r) => if bootBuiltins x = some v then some fun W => tCB r (t W) else none
          | none => none
        else none
    | _, _, _ => none
  else none
/-- isinstance(e, C) -/
def hIsX (g : G) (f : Expr → OE) (N : List Str) (sc : Scope) (xe : Option XeI) (x : Str) (es : List Expr) (kws : List Keyword) : OE := match xe, es with
  | some i, [.Name z _, ec] => if x = "isinstance" ∧ z = i.en ∧ kws = [] ∧ plainName z = true ∧ sc.names.lookup z = some .local ∧ sc.names.lookup x = some .globalImplicit ∧ x ∈ g.blt ∧ notStar ec = true then (match ix? N z, f ec with
    | some k, some t => if isTup ec = true then some fun W => tCB (rIsXT g i.a i.cls i.d) (tCons (cVar k) (tCons (t W) tNil)) else some fun W => tCB (rIsX g i.a i.cls i.d) (tCons (cVar k) (tCons (t W) tNil))
    | _, _ => none) else none
  | _, _ => none
/-- what a comprehension walks where an exception may be handled -/
def hI (g : G) (f : Expr → OE) (sc : Scope) (tg : Expr) : Expr → Option (WX → TI)
  | .Call (.Name x _) [a] [] _ => if x = "range" ∧ sc.names.lookup x = some .globalImplicit ∧ x ∈ g.blt then (tArgs f [a]).map fun t W => cRng1 (t W) else none
  | .Call (.Name x _) [a, b] [] _ => if x = "zip" ∧ isTup tg = true ∧ sc.names.lookup x = some .globalImplicit ∧ x ∈ g.blt then (tArgs f [a, b]).map fun t W => hZip g.K (t W) else none
  | .Name x p => (f (.Name x p)).map fun t W => hIter g.K (t W)
  | _ => none
def hGn (N : List Str) (sc : Scope) : Expr → Option TG
  | .Name x _ => if plainName x = true ∧ sc.names.lookup x = some .local then (ix? N x).map gName else none
  | _ => none
def hGs (N : List Str) (sc : Scope) : List Expr → Option TGs
  | [] => some gNil
  | e :: es => match hGn N sc e, hGs N sc es with
    | some t, some u => some (gCons t u)
    | _, _ => none
def hG (K : PySem.W.Frag) (N : List Str) (sc : Scope) : Expr → Option TG
  | .Tuple es _ _ => if es.all notStar = true then (hGs N sc es).map (cTupG K es.length) else none
  | e => hGn N sc e
/-- a built-in's method called where an exception may be handled -/
theorem pe_methH {X : Cx} {o : Expr} {m : Str} {apos pos : Pos} {es : List Expr} {ta : TE} {t : TA} {bs : List BM} {W : WX} (hb : baseOk o = true) (hstar : es.all notStar = true)
    (hfew : es.length < 29) (hline : (apos.endLine == pos.line) = true) (hbs : ∀ b ∈ bs, BMOk X b ∧ b.name = m)
    (hnil : es = [] → t = tNil) (ho : PE X o ta) (ha : PA X es t) : PE X (.Call (.Attribute o m apos) es [] pos) (cMeth X.K m es.length 0 [] bs ta t tNil W) := by
  refine ⟨fun pins s σ H Q I h => ?_⟩
  refine meth_gen (ks := []) hb hstar rfl (by simpa using hfew) hline (thn (ho.run pins s σ H _ I h) fun ov s1 ⟨x, H1, I1, rx, q1⟩ pl => ?_)
  dsimp only at q1
  split at q1
  · obtain ⟨l, i, hi, hC, q1⟩ := q1
    cases hi
  · split at q1
    · rename_i T eT
      split at q1
      · rename_i b eb
        obtain ⟨hz, q1⟩ := q1
        have hbm : b ∈ bs := List.mem_of_find?_eq_some eb
        have hT : b.T = T := by have := List.find?_some eb; exact beq_iff_eq.mp this
        obtain ⟨ok, hn⟩ := hbs b hbm
        obtain ⟨h1, h2⟩ := tyV_is I1 rx (tyB_ok eT)
        refine getMethod_builtin (T := T) (id := b.id) h1 (hT ▸ ok.pa) (hn ▸ hT ▸ ok.slot) ok.ty h2 ?_
        refine args_of (tk := tNil) (ks := []) (first := [ov]) (R := fun vs zs H2 => zs = [] ∧ b.r x vs H2 Q) keeps_blt hnil hstar rfl ha pk_nil I1 (?_ : t σ H1 fun vs H2 => tNil σ H2 fun zs H3 => zs = [] ∧ b.r x vs H3 Q) fun vs zs us ws s2 H2 I2 r rz q => ?_
        · have e : (fun (vs : List V) (H2 : Hp) => tNil σ H2 fun zs H3 => zs = [] ∧ b.r x vs H3 Q) = fun vs H2 => b.r x vs H2 Q := by
            funext vs H2
            exact propext ⟨fun z => z.2, fun z => ⟨rfl, z⟩⟩
          rw [e]
          exact q1
        · obtain ⟨rfl, q⟩ := q
          exact ok.run pins s2 σ H2 x vs ov us Q I2 rx r q
      · exact q1.elim
    · exact q1.elim
mutual
def hE (g : G) (N : List Str) (xe : Option XeI) : Nat → Scope → Expr → OE
  | 0, _, _ => none
  | n + 1, sc, e => match e with
    | .Constant c _ _ => (match c with
      | .int i => some fun _ => tC (.int i)
      | .bool b => some fun _ => tC (.bl b)
      | .none => some fun _ => tC .non
      | .str s => some fun _ => tC (.str s)
      | _ => none)
    | .Name x _ => (tName g N sc x).map fun t _ => t
    | .Attribute (.Name x _) f _ => (match xe with
      | some i => if x = i.en ∧ plainName x = true ∧ sc.names.lookup x = some .local then (ix? N x).map fun k _ => cXf g k i.a i.cls i.d f else none
      | none => none)
    | .Tuple es _ _ => (tArgs (hE g N xe n sc) es).map fun t W => tTup (t W)
    | .List es _ => (tArgs (hE g N xe n sc) es).map fun t W => tLst (t W)
    | .Call (.Name x _) es kws _ => (match hIsX g (hE g N xe n sc) N sc xe x es kws with
      | some t => some t
      | none => hCallName g (hE g N xe n sc) sc xe x es kws)
    | .Call (.Attribute o m apos) es [] pos => if baseOk o = true ∧ (apos.endLine == pos.line) = true ∧ es.length < 29 then
        (match hE g N xe n sc o, tArgs (hE g N xe n sc) es with
        | some ta, some t => some fun W => cMeth g.K m es.length 0 [] ((bms g.K).filter fun b => decide (b.name = m)) (ta W) (t W) tNil W
        | _, _ => none) else none
    | .BinOp a op b _ => (match hBin g op, hE g N xe n sc a, hE g N xe n sc b with
      | some r, some ta, some tb => some fun W => tOp r (ta W) (tb W)
      | _, _, _ => none)
    | .Compare a [op] [b] _ => if notSet b = true then (match hCmp g op, hE g N xe n sc a, hE g N xe n sc b with
      | some r, some ta, some tb => some fun W => tOp r (ta W) (tb W)
      | _, _, _ => none) else none
    | .BoolOp .And es _ => tBool g.K (hE g N xe n sc) true es
    | .BoolOp .Or es _ => tBool g.K (hE g N xe n sc) false es
    | .UnaryOp .Not a _ => (hE g N xe n sc a).map fun t W => cNot g.K (t W)
    | .IfExp c a b _ => (match hT g N xe n sc c, hE g N xe n sc a, hE g N xe n sc b with
      | some tc, some ta, some tb => some fun W => tIf (tc W) (ta W) (tb W)
      | _, _, _ => none)
    | .Subscript a (.Slice _ _ _ _) _ => none
    | .Subscript a b _ => if notSlice b = true then (match hE g N xe n sc a, hE g N xe n sc b with
      | some ta, some tb => some fun W => tOp (oIx g.K) (ta W) (tb W)
      | _, _ => none) else none
    | .ListComp elt [⟨tg, iter, ifs, 0⟩] scope _ => if blkC N sc scope (ownOf N scope) = true ∧ notSet iter = true then
        (match hI g (hE g N xe n sc) sc tg iter, hG g.K N (relS scope sc) tg, tIfs (hT g N xe n (relS scope sc)) ifs, hE g N xe n (relS scope sc) elt with
        | some wi, some gt, some tt, some te => some fun W => cLc (wi W) gt (tt wNone) (te wNone) ((ownOf N scope).map (·.2))
        | _, _, _, _ => none) else none
    | _ => none
def hT (g : G) (N : List Str) (xe : Option XeI) : Nat → Scope → Expr → Option (WX → TT)
  | 0, _, _ => none
  | n + 1, sc, e => match e with
    | .Compare a [op] [b] _ => if notSet b = true then (match hCmp g op, hE g N xe n sc a, hE g N xe n sc b with
      | some r, some ta, some tb => some fun W => cTest (tOp r (ta W) (tb W))
      | _, _, _ => none) else none
    | .BoolOp .And es _ => tBoolT (hT g N xe n sc) true es
    | .BoolOp .Or es _ => tBoolT (hT g N xe n sc) false es
    | .UnaryOp .Not a _ => (hT g N xe n sc a).map fun t W => tNot (t W)
    | e => if plainTest e = true then (hE g N xe n sc e).map fun t W => cTru g.K (t W) else none
end
def sBody (f : Stmt → TS) : List Stmt → TS
  | [] => tNext
  | [s] => f s
  | s :: r => tSeq (f s) (sBody f r)
def anyOwn (scope : Scope) (y : Str) : Bool := scope.names.any fun (n, k) => n == y && (k == .local || k == .cell)
/-- name = [.. for ..] on one line -/
def hSetLc (g : G) (N : List Str) (xe : Option XeI) (n : Nat) (sc : Scope) (y : Str) (py : Pos) : Expr → Option TS
  | .ListComp elt [⟨tg, iter, ifs, 0⟩] scope pos => if plainName y = true ∧ sc.names.lookup y = some .local ∧ (py.line == pos.line) = true ∧ anyOwn scope y = false ∧ blkC N sc scope (ownOf N scope) = true ∧ notSet iter = true then
      (match ix? N y, hI g (hE g N xe n sc) sc tg iter, hG g.K N (relS scope sc) tg, tIfs (hT g N xe n (relS scope sc)) ifs, hE g N xe n (relS scope sc) elt with
      | some i, some wi, some gt, some tt, some te => some (tAsg (cLc (wi wNone) gt (tt wNone) (te wNone) ((ownOf N scope).map (·.2))) (gName i))
      | _, _, _, _, _ => none) else none
  | _ => none
def orNever (o : Option TS) : TS := match o with
  | some t => t
  | none => tNever
def hS (g : G) (N : List Str) (sc : Scope) (xe : Option XeI) : Nat → Stmt → TS
  | 0, _ => tNever
  | n + 1, st => match st with
    | .Pass _ => tNext
    | .Expr e _ => if notComp e = true then (match hE g N xe n sc e with
      | some t => tDrop (t wNone)
      | none => tNever) else tNever
    | .Return none _ => tRetN
    | .Return (some e) _ => (match hE g N xe n sc e with
      | some t => tRet (t wNone)
      | none => tNever)
    | .Assign [.Name y py] v _ => if notComp v = true then (if plainName y = true ∧ (sc.names.lookup y = some .local ∨ sc.names.lookup y = some .cell) then (match ix? N y, hE g N xe n sc v with
        | some i, some t => tAsg (t wNone) (gName i)
        | _, _ => tNever) else tNever) else orNever (hSetLc g N xe n sc y py v)
    | .Assign [.Subscript o i _] v _ => if notSlice i = true ∧ notComp v = true then (match hE g N xe n sc o, hE g N xe n sc i, hE g N xe n sc v with
      | some to, some ti, some tv => tAsg (tv wNone) (gSub (to wNone) (ti wNone) oSet)
      | _, _, _ => tNever) else tNever
    | .If c a b _ => (match hT g N xe n sc c with
      | some tc => tIfS (tc wNone) (sBody (hS g N sc xe n) a) (sBody (hS g N sc xe n) b)
      | none => tNever)
    | _ => tNever
/-- where it is read -/
structure HOkc (g : G) (X : Cx) (N : List Str) (sc : Scope) (xe : Option XeI) : Prop extends BOk g X N sc where
  hot : HotB X (xiOf xe)
section
variable {g : G} {X : Cx} {N : List Str} {sc : Scope} {en : Str} {a : Addr} {oe : Obj} {cls : Value} {d : Option Addr} {pn : List (Addr × Obj)}
theorem BOk.suite (c : BOk g X N sc) : BOk g (X.suite a ((a, oe) :: pn)) N sc := ⟨c.gok, c.hK, c.hN, c.hsc, c.nd, c.gd, c.un, c.room.elim fun lev r => ⟨lev, r.1, ⟨r.2.dp, r.2.un⟩⟩⟩
theorem BOk.blk (c : BOk g X N sc) {scope : Scope} {s : Shared} {H : Hp} {C : Addr} {cl : List (Str × Addr)} {fp : List Addr} : BOk g (X.blk s H scope (compEnvC scope cl C X.env) fp) N (relS scope sc) where
  gok := c.gok
  hK := c.hK
  hN := c.hN
  hsc := by
    have : (compEnvC scope cl C X.env).scope = relS scope X.env.scope := rfl
    exact this.trans (by rw [c.hsc])
  nd := c.nd
  gd := c.gd
  un := c.un
  room := c.room
theorem cXf_ok (c : BOk g X N sc) (hot : HotB X (some (a, cls, d))) {x : Str} {i : Nat} {p pos : Pos} {f : Str} (hx : plainName x = true) (hl : sc.names.lookup x = some .local) (hi : ix? N x = some i) : PE X (.Attribute (.Name x p) f pos) (cXf g i a cls d f) := by
  have hN : X.N[i]? = some x := by rw [c.hN]; exact ix_get hi
  have vis : Vis X.env.scope x := by
    unfold Vis
    rw [c.hsc, hl]
    simp
  have v := cVar_ok (pos := p) hN vis hx
  obtain ⟨lev, gok⟩ := c.gok
  refine ⟨fun pins s σ H Q I h => ?_⟩
  obtain ⟨e0, y, hy, rfl, rfl, dd, fs, w, rfl, ed, el, q⟩ := h
  obtain ⟨b, fI, fd, px, m1, m2, m3, m4, _⟩ := gok.xcs y hy
  rw [← c.hK] at m3 m4
  have want : cVar i σ H fun x1 H1 => x1 = .ref a ∧ H1 = H := by
    unfold cVar
    rw [e0]
    exact ⟨rfl, rfl⟩
  refine attr_of rfl (thn (v.run pins s σ H _ I want) fun u s1 hh => ?_)
  obtain ⟨x1, H1, I1, rx, rfl, rfl⟩ := hh
  obtain rfl : u = Value.ref a := rx
  obtain ⟨oe, ob, J⟩ := instX hot I1 ed
  obtain ⟨mA, hns, hr⟩ := (show ObjOk X.prog X.w H1 s1.heap dd (.xd fs) from I1.hok dd _ ed)
  obtain ⟨od, ho, hlk⟩ := lookIn_ns hns
  obtain ⟨u1, hu, ru⟩ := RelO.some_of (v := w) (o := mA y.f) (by rw [← el]; exact hr y.f)
  obtain ⟨oe2, h1, hz, k⟩ := hot.there
  have J2 : PySem.W.InstAt s1.heap a oe2 y.C (some od) := by
    obtain ⟨_, vs, hd, _⟩ := h1
    refine ⟨(k I1).1, hz.1, ?_, by rw [hz.2.1]; exact ho⟩
    unfold PySem.W.notCls
    rw [show oe2.data = .fields vs from hd] <;> rfl
  exact HandSPX.exc_get I1.kIn J2 m3.ga m3.gg m3.exC (PySem.W.findObj_own m3.hdC m4 rfl (by rw [hlk, hu])) (handed_of ru) ⟨w, _, I1.tok _, ru, q⟩
theorem vals_refs : ∀ {cs : List Addr} {us : List Value}, Vals (cs.map V.ref) us → us = cs.map Value.ref
  | [], us, h => by cases h; rfl
  | c :: cs, us, h => by
    cases h with
    | cons r rr =>
      rw [vals_refs rr]
      exact congrArg (· :: cs.map Value.ref) r
theorem call_isXT (hK : X.K = g.K) (hot : HotB X (some (a, cls, d))) : CallR X (.builtin "isinstance") (rIsXT g a cls d) := by
  intro pins s σ H xs us Q I r h
  obtain ⟨x, hx, T, dd, cs, fs, b, rfl, hT, rfl, hE, rfl, hd, e, q⟩ := h
  obtain ⟨u1, u2, rfl, r1, r2⟩ := vals2 r
  cases (show u1 = Value.ref a from r1)
  cases (show u2 = Value.ref T from r2)
  obtain ⟨oe, o, J⟩ := instX hot I hd
  rw [← hK] at hT e
  obtain ⟨its, rv, p, _⟩ := I.tuple hT
  obtain rfl := vals_refs rv
  obtain ⟨⟨oc, od, oda, osl⟩, ho, hc, n, hdat⟩ := (show s.heap.IsTuple T (cs.map Value.ref).toArray from p)
  dsimp only at hc hdat
  subst hc hdat
  exact PySem.W.kia_tup (WRE.xc_kit (excB_ok (by rw [hK]; exact hE))) I.kIn J ho e (fun z => nomatch z) fun tk => ⟨.bl b, H, I.kept (t' := tk) fun _ _ z => z, rfl, q⟩
theorem hCmp_ok (c : BOk g X N sc) {op : CmpOp} {r : R2} (h : hCmp g op = some r) : OpR X (compareOp op) r := by
  have hu : X.A.units + 64 < cLine := by have := c.un; omega
  have hu5 : X.A.units + 65 < cLine := by have := c.un; omega
  unfold hCmp at h
  rw [← c.hK] at h
  split at h <;> cases h
  · exact r_lt
  · exact r_le
  · exact r_gt
  · exact r_ge
  · exact fun pins s σ H x y v u Q I rx ry h => h.elim (fun h => r_eq hu pins s σ H x y v u Q I rx ry h) (fun h => op_eqDD hu5 pins s σ H x y v u Q I rx ry h)
  · exact fun pins s σ H x y v u Q I rx ry h => h.elim (fun h => r_ne hu pins s σ H x y v u Q I rx ry h) (fun h => op_neDD hu5 pins s σ H x y v u Q I rx ry h)
  · exact r_in hu5
  · exact r_notin hu5
  · exact r_is
  · exact r_isnot
theorem hBin_ok (c : BOk g X N sc) {op : Operator} {r : R2} (h : hBin g op = some r) : OpR X (binaryOp op) r := by
  unfold hBin at h
  rw [← c.hK] at h
  split at h <;> cases h
  · exact r_add
  · exact r_sub
  · exact r_mul
  · exact r_fdiv
  · exact r_mod
theorem hBlt_ok (c : BOk g X N sc) {x : Str} {v : Value} {r : RC} (h : (hBlt g).lookup x = some (v, r)) : CallR X v r ∧ Keeps X v := by
  have hu : X.A.units + 64 < cLine := by have := c.un; omega
  obtain ⟨lev, gok⟩ := c.gok
  have hm := PySem.mem_of_lookup h
  simp only [hBlt, List.mem_cons, List.not_mem_nil, or_false, Prod.mk.injEq] at hm
  rcases hm with ⟨_, rfl, rfl⟩ | ⟨_, rfl, rfl⟩ | ⟨_, rfl, rfl⟩ | ⟨_, rfl, rfl⟩ | ⟨_, rfl, rfl⟩ | ⟨_, rfl, rfl⟩ | ⟨_, rfl, rfl⟩
  all_goals try rw [← c.hK]
  · exact ⟨b_repr c.gd hu (by rw [c.hK]; exact gok.sys), keeps_blt⟩
  · exact ⟨b_len, keeps_blt⟩
  · exact ⟨b_isi, keeps_blt⟩
  · exact ⟨b_abs, keeps_blt⟩
  · exact ⟨b_ord, keeps_blt⟩
  · exact ⟨b_int, keeps_ty⟩
  · exact ⟨b_tuple, keeps_ty⟩
theorem hCallName_ok (c : BOk g X N sc) {xe : Option XeI} (hot : HotB X (xiOf xe)) {W : WX} {f : Expr → OE} (h : SE X W f) {x : Str} {p pos : Pos} {es : List Expr} {kws : List Keyword} {t : WX → TE} (q : hCallName g f sc xe x es kws = some t) : PE X (.Call (.Name x p) es kws pos) (t W) := by
  unfold hCallName at q
  split at q
  · rename_i hx
    have hg : Gl X x := by unfold Gl Env.kindOf; rw [c.hsc]; exact hx.2
    split at q
    · rename_i ks ta tk e1 e2 e3
      obtain ⟨a1, a2, a3⟩ := tArgs_ok h e2
      obtain ⟨b1, b2⟩ := tKws_ok h e3
      split at q
      · rename_i i ei
        cases q
        have hi := List.mem_of_find?_eq_some ei
        have hp := List.find?_some ei
        simp only [Bool.and_eq_true, decide_eq_true_eq] at hp
        obtain ⟨⟨p1, p2⟩, p3⟩ := hp
        obtain ⟨lev, gok, room⟩ := c.room
        obtain ⟨fa, fd, ps, gf, m1, m2, F, kb⟩ := gok.hfs i hi
        rw [← c.hK] at m2 F kb
        rw [p1] at m1
        rw [p2, p3] at kb
        exact pe_ownH hot F room c.gd kb takes0 hg m1 m2 hx.1 a3 a2 e1 a1 b1
      · split at q
        · rename_i hb
          obtain ⟨hb, rfl, hne⟩ := hb
          obtain ⟨lev, gok⟩ := c.gok
          split at q
          · rename_i v r er
            split at q
            · rename_i hv
              cases q
              obtain ⟨o1, o2⟩ := hBlt_ok c er
              exact pe_blt o1 o2 hg (gok.blt x hb) hv hx.1 a3 a2 a1
            · cases q
          · cases q
        · cases q
    · cases q
  · cases q
variable {xe : Option XeI} {W : WX}
theorem hIsX_ok (c : HOkc g X N sc xe) {f : Expr → OE} (h : SE X W f) {x : Str} {p pos : Pos} {es : List Expr} {kws : List Keyword} {t : WX → TE} (q : hIsX g f N sc xe x es kws = some t) : PE X (.Call (.Name x p) es kws pos) (t W) := by
  unfold hIsX at q
  split at q
  · split at q
    · rename_i i z zp ec hc
      obtain ⟨rfl, rfl, rfl, h1, h2, h3, h4, h5⟩ := hc
      split at q
      · rename_i k tc e1 e2
        obtain ⟨lev, gok⟩ := c.gok
        have hg : Gl X "isinstance" := by unfold Gl Env.kindOf; rw [c.hsc]; exact h3
        have vis : Vis X.env.scope i.en := by unfold Vis; rw [c.hsc, h2]; simp
        have al : ([.Name i.en zp, ec] : List Expr).all notStar = true := by rw [List.all_cons, List.all_cons, h5]; rfl
        have ar := fun t (ht : PE X ec t) => pa_cons (cVar_ok (pos := zp) (by rw [c.hN]; exact ix_get e1) vis h1) (pa_cons ht pa_nil (star_of h5)) (star_of (e := .Name i.en zp) (es := [ec]) (env := X.env) rfl)
        split at q
        · cases q
          exact pe_blt (call_isXT c.hK c.hot) keeps_blt hg (gok.blt _ h4) (by rfl) (by decide) (fun z => nomatch z) al (ar _ (h _ _ e2))
        · cases q
          exact pe_blt (call_isX c.hK c.hot) keeps_blt hg (gok.blt _ h4) (by rfl) (by decide) (fun z => nomatch z) al (ar _ (h _ _ e2))
      · cases q
    · cases q
  · cases q
/-- what is walked, the targets -/
theorem hI_ok (c : BOk g X N sc) {f : Expr → OE} (h : SE X W f) {tg iter : Expr} {t : WX → TI} (q : hI g f sc tg iter = some t) : PIX X tg iter (t W) := by
  obtain ⟨lev, gok⟩ := c.gok
  have gl : ∀ {x : Str}, sc.names.lookup x = some .globalImplicit → Gl X x := fun z => by unfold Gl Env.kindOf; rw [c.hsc]; exact z
  unfold hI at q
  split at q
  · split at q
    · rename_i hc
      obtain ⟨rfl, h1, h2⟩ := hc
      obtain ⟨u, hu, rfl⟩ := Option.map_eq_some_iff.mp q
      obtain ⟨p1, p2, p3⟩ := tArgs_ok h hu
      simp only [List.all_cons, List.all_nil, Bool.and_true] at p2
      exact pix_rng1 (gl h1) (gok.blt _ h2) p2 p1
    · cases q
  · split at q
    · rename_i hc
      obtain ⟨rfl, ht, h1, h2⟩ := hc
      obtain ⟨_, _, _, rfl⟩ := isTup_ex ht
      obtain ⟨u, hu, rfl⟩ := Option.map_eq_some_iff.mp q
      obtain ⟨p1, p2, p3⟩ := tArgs_ok h hu
      simp only [List.all_cons, List.all_nil, Bool.and_true, Bool.and_eq_true] at p2
      rw [← c.hK]
      exact pix_zip (gl h1) (gok.blt _ h2) p2.1 p2.2 p1
    · cases q
  · obtain ⟨u, hu, rfl⟩ := Option.map_eq_some_iff.mp q
    rw [← c.hK]
    exact pix_dyn (h _ _ hu)
  · cases q
theorem hGn_ok (c : BOk g X N sc) {e : Expr} {t : TG} (q : hGn N sc e = some t) : PG X e t := by
  unfold hGn at q
  split at q
  · split at q
    · rename_i hc
      obtain ⟨i, hi, rfl⟩ := Option.map_eq_some_iff.mp q
      refine pg_name c.nd (by rw [c.hN]; exact ix_get hi) ?_ ?_
      · unfold L2.Loc
        rw [c.hsc, hc.2]
        simp
      · rw [c.hsc, hc.2]
        exact .inr rfl
    · cases q
  · cases q
theorem hGn_star {e : Expr} {t : TG} (q : hGn N sc e = some t) : notStar e = true := by
  unfold hGn at q
  split at q
  · rfl
  · cases q
theorem hGs_ok (c : BOk g X N sc) : ∀ {es : List Expr} {t : TGs}, hGs N sc es = some t → PGs X es t
  | [], t, q => by
    cases q
    exact pgs_nil
  | e :: es, t, q => by
    unfold hGs at q
    split at q
    · rename_i e1 e2
      cases q
      exact pgs_cons (hGn_ok c e1) (hGs_ok c e2) (by rw [assign_star (hGn_star e1)]; rfl)
    · cases q
theorem hG_ok (c : BOk g X N sc) {xi : XI} (hot : HotB X xi) {e : Expr} {t : TG} (q : hG g.K N sc e = some t) : PG X e t := by
  unfold hG at q
  split at q
  · split at q
    · rename_i hs
      obtain ⟨u, hu, rfl⟩ := Option.map_eq_some_iff.mp q
      refine ⟨fun pins s σ H v w Q I r hw => (pg_tupX hot (hGs_ok c hu) assign_len (assign_none hs)).run pins s σ H v w Q I r ?_⟩
      simp only [cTupG] at hw
      split at hw
      · split at hw
        · rename_i e; exact ⟨_, _, rfl, by rw [c.hK]; exact look_tup e, hw.1, hw.2⟩
        · exact hw.elim
      · exact hw.elim
    · cases q
  · exact hGn_ok c q
theorem PIX_up {tg l : Expr} {t : TI} (h : PIX X tg l t) : PIX X tg l (upI t) := by
  constructor
  rintro pins s σ H R I ⟨R0, q, k⟩
  refine thn (h.run pins s σ H R0 I q) fun _ _ z => thn z fun _ _ w => ?_
  obtain ⟨it, fp, tn, J, H', a, b, c, d, e, f⟩ := w
  exact ⟨it, fp, tn, J, H', a, b, c, d, e, k _ _ f⟩
theorem HOkc.blk (c : HOkc g X N sc xe) {scope : Scope} {s : Shared} {H : Hp} {C : Addr} {cl : List (Str × Addr)} {fp : List Addr} (hot : HotB (X.blk s H scope (compEnvC scope cl C X.env) fp) (xiOf xe)) :
    HOkc g (X.blk s H scope (compEnvC scope cl C X.env) fp) N (relS scope sc) xe := { toBOk := c.toBOk.blk, hot := hot }
theorem hET_ok : ∀ (n : Nat) {X : Cx} {sc : Scope} {W : WX} (c : HOkc g X N sc xe), SE X W (hE g N xe n sc) ∧ ST X W (hT g N xe n sc)
  | 0, X, sc, W, c => ⟨fun e t q => by simp [hE] at q, fun e t q => by simp [hT] at q⟩
  | n + 1, X, sc, W, c => by
    obtain ⟨ihE, ihT⟩ := hET_ok (W := W) n c
    have cb := c.toBOk
    refine ⟨fun e t q => ?_, fun e t q => ?_⟩
    · unfold hE at q
      split at q
      · split at q
        · cases q; exact pe_int
        · cases q; exact pe_bl
        · cases q; exact pe_non
        · cases q; exact pe_str
        · cases q
      · obtain ⟨u, hu, rfl⟩ := Option.map_eq_some_iff.mp q
        exact tName_ok hu cb
      · split at q
        · rename_i i
          split at q
          · rename_i hc
            obtain ⟨k, hk, rfl⟩ := Option.map_eq_some_iff.mp q
            exact cXf_ok cb c.hot hc.2.1 hc.2.2 hk
          · cases q
        · cases q
      · obtain ⟨u, hu, rfl⟩ := Option.map_eq_some_iff.mp q
        exact pe_tup (tArgs_ok ihE hu).1
      · obtain ⟨u, hu, rfl⟩ := Option.map_eq_some_iff.mp q
        exact pe_lst (tArgs_ok ihE hu).1
      · split at q
        · rename_i e; cases q; exact hIsX_ok c ihE e
        · exact hCallName_ok cb c.hot ihE q
      · split at q
        · rename_i hb
          split at q
          · rename_i e1 e2
            cases q
            obtain ⟨a1, a2, a3⟩ := tArgs_ok ihE e2
            rw [← cb.hK]
            refine pe_methH hb.1 a2 hb.2.2 hb.2.1 (fun b hbm => ?_) a3 (ihE _ _ e1) a1
            obtain ⟨z1, z2⟩ := List.mem_filter.mp hbm
            exact ⟨bms_ok (by have := cb.un; omega) b z1, of_decide_eq_true z2⟩
          · cases q
        · cases q
      · split at q
        · rename_i e1 e2 e3
          cases q
          exact pe_op (hBin_ok cb e1) (ihE _ _ e2) (ihE _ _ e3)
        · cases q
      · split at q
        · rename_i hs
          split at q
          · rename_i e1 e2 e3
            cases q
            exact pe_cmpR (hCmp_ok cb e1) (ihE _ _ e2) (ihE _ _ e3) (notSet_b hs)
          · cases q
        · cases q
      · rw [← cb.hK] at q
        exact tBool_ok ihE true q
      · rw [← cb.hK] at q
        exact tBool_ok ihE false q
      · obtain ⟨u, hu, rfl⟩ := Option.map_eq_some_iff.mp q
        rw [← cb.hK]
        exact pe_not' (ihE _ _ hu)
      · split at q
        · rename_i e1 e2 e3
          cases q
          exact pe_ifExp (ihT _ _ e1) (ihE _ _ e2) (ihE _ _ e3)
        · cases q
      · cases q
      · split at q
        · rename_i hs
          split at q
          · rename_i e1 e2
            cases q
            rw [← cb.hK]
            exact pe_ix (r_ix (by have := cb.un; omega)) (ihE _ _ e1) (ihE _ _ e2) (notSlice_ix hs)
          · cases q
        · cases q
      · split at q
        · rename_i hb
          obtain ⟨hb, hs⟩ := hb
          split at q
          · rename_i wi gt tt te e1 e2 e3 e4
            cases q
            have ok : BlkOk X.N X.env.scope _ _ := blkOk_by (by rw [c.hN, c.hsc]; exact hb)
            exact PE_imp (pe_lcX c.hot c.nd (PIX_up (hI_ok cb ihE e1)) ok (fun s H C cl fp hot => hG_ok (c.blk hot).toBOk hot e2) (fun s H C cl fp hot => tIfs_ok (hET_ok n (c.blk hot)).2 e3) (fun s H C cl fp hot => (hET_ok n (c.blk hot)).1 _ _ e4) (fun x => notSet_f hs))
              fun σ H Q h => ⟨_, h, fun J H' q D hD => lpc_W (q D hD)⟩
          · cases q
        · cases q
      · cases q
    · unfold hT at q
      split at q
      · split at q
        · rename_i hs
          split at q
          · rename_i e1 e2 e3
            cases q
            exact pt_cmp' (hCmp_ok cb e1) (ihE _ _ e2) (ihE _ _ e3) (notSet_b hs)
          · cases q
        · cases q
      · exact (tBoolT_ok ihT true q).pt
      · exact (tBoolT_ok ihT false q).pt
      · obtain ⟨u, hu, rfl⟩ := Option.map_eq_some_iff.mp q
        exact pt_not (ihT _ _ hu)
      · split at q
        · rename_i hp
          obtain ⟨u, hu, rfl⟩ := Option.map_eq_some_iff.mp q
          rw [← cb.hK]
          exact pt_tru' (ihE _ _ hu) fun whole => plain_true hp
        · cases q
theorem sBody_ok {X : Cx} {f : Stmt → TS} (h : ∀ st, PS X st (f st)) : ∀ (l : List Stmt), PSs X l (sBody f l)
  | [] => pss_nil
  | [s] => pss_one (h s)
  | s :: s2 :: r => show PSs X _ (tSeq (f s) (sBody f (s2 :: r))) from pss_cons (h s) (sBody_ok h (s2 :: r))
theorem hSetLc_ok (c : HOkc g X N sc xe) (hk : X.env.scope.kind = .function) {n : Nat} {y : Str} {py pos : Pos} {v : Expr} {t : TS} (q : hSetLc g N xe n sc y py v = some t) : PS X (.Assign [.Name y py] v pos) t := by
  have cb := c.toBOk
  unfold hSetLc at q
  split at q
  · split at q
    · rename_i hc
      obtain ⟨h0, h1, h2, h3, h4, h5⟩ := hc
      split at q
      · rename_i i wi gt tt te e1 e2 e3 e4 e5
        cases q
        have ok : BlkOk X.N X.env.scope _ _ := blkOk_by (by rw [c.hN, c.hsc]; exact h4)
        exact PS_imp (ps_setLcX c.hot c.nd (by rw [c.hN]; exact ix_get e1) (by rw [c.hsc]; exact h1) (sw_true hk (by rw [c.hsc]; exact h1) h2 h3) (PIX_up (hI_ok cb (hET_ok (W := wNone) n c).1 e2)) ok (fun s H C cl fp hot => hG_ok (c.blk hot).toBOk hot e3)
          (fun s H C cl fp hot => tIfs_ok (hET_ok n (c.blk hot)).2 e4) (fun s H C cl fp hot => (hET_ok n (c.blk hot)).1 _ _ e5) (fun x => notSet_f h5)) fun D σ H h => ⟨_, h, fun J H' q D hD => lpc_W (q D hD)⟩
      · cases q
    · cases q
  · cases q
theorem hS_ok (c : HOkc g X N sc xe) (hfn : ∀ x, X.fn x = true) (hk : X.env.scope.kind = .function) : ∀ (n : Nat) (st : Stmt), PS X st (hS g N sc xe n st)
  | 0, st => ps_never
  | n + 1, st => by
    have ih := hS_ok c hfn hk n
    have cb := c.toBOk
    have hE' : ∀ {e : Expr} {t : WX → TE}, hE g N xe n sc e = some t → PE X e (t wNone) := fun q => (hET_ok (W := wNone) n c).1 _ _ q
    unfold hS
    split
    · exact ps_pass
    · split
      · rename_i hn
        split
        · rename_i e1; exact ps_expr (hE' e1) (notComp_sw hn)
        · exact ps_never
      · exact ps_never
    · exact ps_retN
    · split
      · rename_i e1; exact ps_ret (hE' e1)
      · exact ps_never
    · split
      · rename_i h3
        split
        · rename_i hc
          obtain ⟨h1, h2⟩ := hc
          split
          · rename_i i t e1 e2
            refine ps_asg (hE' e2) ?_ (by unfold swapsWithSole; exact notComp_sw h3) rfl rfl
            refine pg_name cb.nd (by rw [cb.hN]; exact ix_get e1) ?_ (.inl (hfn _))
            unfold L2.Loc
            rw [cb.hsc]
            exact h2
          · exact ps_never
        · exact ps_never
      · unfold orNever
        split
        · rename_i e1
          exact hSetLc_ok c hk e1
        · exact ps_never
    · split
      · rename_i o i ps v ps2 hc
        obtain ⟨h1, h2⟩ := hc
        split
        · rename_i to ti tv e1 e2 e3
          refine ps_asg (hE' e3) ?_ ?_ rfl rfl
          rotate_left
          · show swapsWith v (some (.Subscript o i ps)) ps2.line X.env = pure false
            exact notComp_sw h2
          refine pg_sub (hE' e1) (hE' e2) (r_set (by have := cb.un; omega)) ?_
          intro v
          cases i <;> first | rfl | exact absurd h1 Bool.false_ne_true
        · exact ps_never
      · exact ps_never
    · split
      · rename_i e1; exact ps_if ((hET_ok (W := wNone) n c).2 _ _ e1) (sBody_ok ih _) (sBody_ok ih _)
      · exact ps_never
    · exact ps_never
theorem hok_suite (c : BOk g X N sc) (hot : HotB (X.suite a ((a, oe) :: pn)) (some (a, cls, d))) (en : Str) : HOkc g (X.suite a ((a, oe) :: pn)) N sc (some ⟨en, a, cls, d⟩) where
  toBOk := c.suite
  hot := hot
end
/-- the clauses, told -/
def clsVal (g : G) (sc : Scope) (x : Str) : Option Value := if plainName x = true ∧ sc.names.lookup x = some .globalImplicit then (match g.cons.lookup x with
  | some (.ref C) => some (.ref C)
  | _ => none) else none
def clsVals (g : G) (sc : Scope) : List Expr → Option (List Value)
  | [] => some []
  | .Name x _ :: r => match clsVal g sc x, clsVals g sc r with
    | some c, some l => some (c :: l)
    | _, _ => none
  | _ => none
def clsOf (g : G) (sc : Scope) : Expr → Option (Value ⊕ List Value)
  | .Name x _ => (clsVal g sc x).map .inl
  | .Tuple es _ _ => if es.length ≤ 1000 then (clsVals g sc es).map .inr else none
  | _ => none
def tCl (g : G) (N : List Str) (sc : Scope) : List ExceptHandler → List ClR
  | [] => []
  | .ExceptHandler (some e) none (b :: suite) _ :: r => (match clsOf g sc e with
    | some c => clR c none (fun a cls d => sBody (hS g N sc (some ⟨"", a, cls, d⟩) 20) (b :: suite)) :: tCl g N sc r
    | none => [.dead])
  | .ExceptHandler (some e) (some n) (b :: suite) _ :: r => (match clsOf g sc e, ix? N n with
    | some c, some i => if sc.names.lookup n = some .local then clR c (some i) (fun a cls d => sBody (hS g N sc (some ⟨n, a, cls, d⟩) 20) (b :: suite)) :: tCl g N sc r else [.dead]
    | _, _ => [.dead])
  | _ => [.dead]
theorem clsVal_ok {g : G} {X : Cx} {N : List Str} {sc : Scope} (c : BOk g X N sc) {x : Str} {v : Value} (h : clsVal g sc x = some v) : Names X x v := by
  obtain ⟨lev, gok⟩ := c.gok
  unfold clsVal at h
  split at h
  · rename_i hc
    split at h
    · rename_i C e
      cases h
      obtain ⟨u, h1, h2⟩ := gok.cons _ (lookup_mem e)
      obtain rfl : u = Value.ref C := h2
      refine ⟨?_, plain_d hc.1, .inl h1⟩
      unfold Gl Env.kindOf
      rw [c.hsc]
      exact hc.2
    · cases h
  · cases h
theorem clsVals_ok {g : G} {X : Cx} {N : List Str} {sc : Scope} (c : BOk g X N sc) : ∀ {es : List Expr} {cs : List Value}, clsVals g sc es = some cs → Paired (fun e c => ∃ x q, e = .Name x q ∧ Names X x c) es cs
  | [], cs, h => by
    cases h
    exact .nil
  | e :: es, cs, h => by
    unfold clsVals at h
    split at h
    · rename_i e0
      cases e0
    · rename_i x p r e0
      cases e0
      split at h
      · rename_i v l e1 e2
        cases h
        exact .cons ⟨_, _, rfl, clsVal_ok c e1⟩ (clsVals_ok c e2)
      · cases h
    · cases h
theorem clsOf_ok {g : G} {X : Cx} {N : List Str} {sc : Scope} (c : BOk g X N sc) {e : Expr} {v : Value ⊕ List Value} (h : clsOf g sc e = some v) : ClN X e v := by
  unfold clsOf at h
  split at h
  · obtain ⟨u, hu, rfl⟩ := Option.map_eq_some_iff.mp h
    exact .one (clsVal_ok c hu)
  · split at h
    · rename_i hl
      obtain ⟨u, hu, rfl⟩ := Option.map_eq_some_iff.mp h
      exact .tup (clsVals_ok c hu) hl
    · cases h
  · cases h
theorem tCl_ok {g : G} {X : Cx} {N : List Str} {sc : Scope} (c : BOk g X N sc) (hfn : ∀ x, X.fn x = true) (hk : X.env.scope.kind = .function) : ∀ (l : List ExceptHandler), ClOk X l (tCl g N sc l) := by
  intro l
  fun_induction tCl g N sc l with
  | case1 => exact .nil
  | case2 e b suite pos r v ev ih => exact .one (clsOf_ok c ev) (fun a oe cls d pn hot => sBody_ok (fun st => hS_ok (hok_suite c hot "") hfn hk 20 st) _) ih
  | case3 => exact .dead
  | case4 e n b suite pos r v i e2 e1 hl ih =>
    refine .as_ (clsOf_ok c e1) (by rw [c.hN]; exact ix_get e2) ?_ (fun a oe cls d pn hot => sBody_ok (fun st => hS_ok (hok_suite c hot n) hfn hk 20 st) _) ih
    unfold Env.kindOf
    rw [c.hsc]
    exact hl
  | case5 => exact .dead
  | case6 => exact .dead
  | case7 => exact .dead
end WR

set_option Elab.async false
set_option linter.all false
set_option maxRecDepth 100000
set_option maxHeartbeats 4000000
namespace WR
open PySem PySem.Spec PyProof.Rows L2

def isName : Expr → Bool
  | .Name _ _ => true
  | _ => false
def tupPair : Expr → Expr → Bool
  | .Tuple _ _ _, .Tuple _ _ _ => true
  | .List _ _, .Tuple _ _ _ => true
  | _, _ => false
theorem tupPair_ok {t v : Expr} {env : Env} (h : tupPair t v = false) : swappedStores [t] v env = pure none := by
  cases t <;> first
    | rfl
    | (cases v <;> first | rfl | exact absurd h.symm Bool.false_ne_true)
def cPar3 (i j l : Nat) (ta : TA) : TS := fun D σ H => ta σ H fun vs H1 => match vs with
  | [u, v, w] => D.nx (((σ.set i (some u)).set j (some v)).set l (some w)) H1
  | _ => False
/-- target = value, generally -/
def tAsgG (g : G) (f : Expr → OE) (N : List Str) (sc : Scope) (tg v : Expr) : Option (WX → TS) :=
  if tupPair tg v = false ∧ notStar tg = true ∧ (notComp v = true ∨ isName tg = false) then (match tG g.K f N sc (fun _ => true) 12 tg, f v with
    | some gt, some tv => some fun W => tAsg (tv W) (gt W)
    | _, _ => none) else none
def tParS (g : G) (f : Expr → OE) (N : List Str) (sc : Scope) : Expr → Expr → Option (WX → TS)
  | .Tuple ts _ _, .Tuple vs _ _ => (match swR sc ts vs, tArgs f vs with
    | some (some _), some t => (match ts, vs with
      | [.Name x _, .Name y _], [_, _] => if sc.names.lookup x = some .local ∧ sc.names.lookup y = some .local ∧ x ≠ y ∧ swR sc ts vs = some (some [x, y]) then (match ix? N x, ix? N y with
          | some i, some j => some fun W => cPar i j (t W)
          | _, _ => none) else none
      | [.Name x _, .Name y _, .Name z _], [_, _, _] => if sc.names.lookup x = some .local ∧ sc.names.lookup y = some .local ∧ sc.names.lookup z = some .local ∧ x ≠ y ∧ x ≠ z ∧ y ≠ z ∧ swR sc ts vs = some (some [x, y, z]) then (match ix? N x, ix? N y, ix? N z with
          | some i, some j, some l => some fun W => cPar3 i j l (t W)
          | _, _, _ => none) else none
      | _, _ => none)
    | some none, some t => (match tGs g.K f N sc (fun _ => true) 12 ts with
      | some gs => if ts.all notStar = true then some fun W => tAsg (tTup (t W)) (cTupG g.K ts.length (gs W)) else none
      | none => none)
    | _, _ => none)
  | _, _ => none
def tSetLc2 (g : G) (n : Nat) (N : List Str) (sc : Scope) (y : Str) (py : Pos) (elt : Expr) (gs : List Comprehension) (scope : Scope) (pos : Pos) : Option (WX → TS) :=
    if sc.names.lookup y ≠ some .local ∨ (py.line == pos.line) = false ∨ anyOwn scope y = true then (match tG g.K (tE g n N sc) N sc (fun _ => true) 12 (.Name y py), tE g n N sc (.ListComp elt gs scope pos) with
      | some gt, some tv => some fun W => tAsg (tv W) (gt W)
      | _, _ => none) else none
/-- name = [.. for ..] -/
def tSetLc (g : G) (n : Nat) (N : List Str) (sc : Scope) : Expr → Expr → Option (WX → TS)
  | .Name y py, .ListComp elt [⟨tg, iter, ifs, 0⟩] scope pos =>
    if plainName y = true ∧ sc.names.lookup y = some .local ∧ (py.line == pos.line) = true ∧ anyOwn scope y = false ∧ blkC N sc scope (ownOf N scope) = true then
      (match ix? N y, tI g (tE g n N sc) sc tg iter, tG g.K (tE g n N (relS scope sc)) N (relS scope sc) (okBlk scope) 12 tg, tIfs (tT g n N (relS scope sc)) ifs, tE g n N (relS scope sc) elt with
      | some i, some wi, some gt, some tt, some te => some fun W D σ H => tAsg (cLc (wi W) (gt wNone) (tt wNone) (te wNone) ((ownOf N scope).map (·.2))) (gName i) D σ H ∨ tLock (tAsg (cLc (wi W) (gt wNone) (tt wNone) (te wNone) ((ownOf N scope).map (·.2))) (gName i)) D σ H
      | _, _, _, _, _ => none)
    else tSetLc2 g n N sc y py elt [⟨tg, iter, ifs, 0⟩] scope pos
  | .Name y py, .ListComp elt gs scope pos => tSetLc2 g n N sc y py elt gs scope pos
  | _, _ => none
def tAssign (g : G) (n : Nat) (N : List Str) (sc : Scope) (tg v : Expr) : Option (WX → TS) := match tg with
  | .Attribute o a _ => if baseOk o = true then (match g.ats.lookup a, tE g n N sc o, tE g n N sc v with
    | some cs, some to, some tv => some fun W => cFldS cs a (to W) (tv W)
    | _, _, _ => none) else none
  | _ => match tSetLc g n N sc tg v with
    | some t => some t
    | none => match tParS g (tE g n N sc) N sc tg v with
      | some t => some t
      | none => tAsgG g (tE g n N sc) N sc tg v
def orBad (o : Option (WX → TS)) : WX → TS := match o with
  | some t => t
  | none => bad
def tBody (f : Stmt → WX → TS) : List Stmt → WX → TS
  | [] => fun _ => tNext
  | [s] => f s
  | s :: r => fun W => tSeq (f s W) (tBody f r W)
def tRaise (g : G) (f : Expr → OE) (sc : Scope) : Expr → Option (WX → TS)
  | .Call (.Name x _) [e] [] _ => if plainName x = true ∧ sc.names.lookup x = some .globalImplicit ∧ notStar e = true then (match g.xcs.find? (fun i => decide (i.name = x)), f e with
    | some i, some te => some fun W _ σ H => tMkX i.C i.f (te W) σ H fun cls d H' => W cls d σ H'
    | _, _ => none) else none
  | _ => none
def tS (g : G) : Nat → List Str → Scope → Stmt → WX → TS
  | 0, _, _, _ => fun _ => tNever
  | n + 1, N, sc, st => fun W => match st with
    | .Pass _ => tNext
    | .Break _ => tBreak
    | .Continue _ => tCont
    | .Expr e _ => if notComp e = true then orBad ((tE g n N sc e).map fun t W => tDrop (t W)) W else tNever
    | .Return none _ => tRetN
    | .Return (some e) _ => orBad ((tE g n N sc e).map fun t W => tRet (t W)) W
    | .Assign [tg] v _ => orBad (tAssign g n N sc tg v) W
    | .AugAssign (.Name x _) op v _ => orBad (match sc.names.lookup x, ix? N x, iopR g.K op, tE g n N sc v with
      | some .local, some i, some r, some tv => some fun W => cAug i (tv W) r
      | some .cell, some i, some r, some tv => some fun W => cAug i (tv W) r
      | _, _, _, _ => none) W
    | .AugAssign (.Attribute o a _) .Add v _ => orBad (match g.ats.lookup a, tE g n N sc o, tE g n N sc v with
      | some cs, some to, some tv => some fun W => cFldAug cs a false (to W) (tv W)
      | _, _, _ => none) W
    | .AugAssign (.Attribute o a _) .Sub v _ => orBad (match g.ats.lookup a, tE g n N sc o, tE g n N sc v with
      | some cs, some to, some tv => some fun W => cFldAug cs a true (to W) (tv W)
      | _, _, _ => none) W
    | .If c a b _ => (match tT g n N sc c with
      | some tc => tIfS (tc W) (tBody (tS g n N sc) a W) (tBody (tS g n N sc) b W)
      | none => tNever)
    | .While c a [] _ => (match tT g n N sc c with
      | some tc => cWhile (tc W) (tBody (tS g n N sc) a W)
      | none => tNever)
    | .For tg iter body [] _ => (match tI g (tE g n N sc) sc tg iter, tG g.K (tE g n N sc) N sc (fun _ => true) 12 tg with
      | some wi, some gt => fun D σ H => cFor (wi W) (gt W) (tBody (tS g n N sc) body W) D σ H ∨ tLock (cFor (wi W) (gt W) (tBody (tS g n N sc) body W)) D σ H
      | _, _ => tNever)
    | .Raise (some e) none _ => orBad (tRaise g (tE g n N sc) sc e) W
    | .Try body (h0 :: hs) [] [] _ => fun D σ H => tBody (tS g n N sc) body (wCl g.K W D (tCl g N sc (h0 :: hs))) D σ H
    | _ => tNever

/-- where a statement is read -/
structure KOk (g : G) (lev : Nat) (X : Cx) (N : List Str) (sc : Scope) (W : WX) : Prop extends COk g lev X N sc W where
  hp : PassesOwn (model X.prog X.w) X.A X.env X.xe
  stk : X.stack = X.env :: X.outer
  fr : X.env.frame = some X.env.locals
  hfn : ∀ x, X.fn x = true
  kind : X.env.scope.kind = .function
section
variable {g : G} {lev : Nat} {X : Cx} {N : List Str} {sc : Scope} {W : WX} {f : Expr → OE}
theorem ps_bad {st : Stmt} : PS X st tNever := ps_never
theorem orBad_ok {st : Stmt} {o : Option (WX → TS)} (h : ∀ t, o = some t → PS X st (t W)) : PS X st (orBad o W) := by
  unfold orBad
  split
  · exact h _ rfl
  · exact ps_never
theorem KOk.tr (c : KOk g lev X N sc W) {W' : WX} {pn : List (Addr × Obj)} {xe : Value → Shared → Prop} (tk : L2N.Takes (X.tr pn xe) W') (hp : PassesOwn (model X.prog X.w) X.A X.env xe) : KOk g lev (X.tr pn xe) N sc W' where
  gok := c.gok
  hK := c.hK
  hN := c.hN
  hsc := c.hsc
  nd := c.nd
  calm := c.calm
  tk := tk
  room := c.room
  gd := c.gd
  room2 := c.room2
  lam := fun p h e => (c.lam p h e).imp (fun a => ⟨a.tb, a.code, a.qual, a.mem, a.uni⟩) id
  hp := hp
  stk := c.stk
  fr := c.fr
  hfn := c.hfn
  kind := c.kind
theorem tRaise_ok (c : KOk g lev X N sc W) (h : SE X W f) {e : Expr} {pos : Pos} {t : WX → TS} (q : tRaise g f sc e = some t) : PS X (.Raise (some e) none pos) (t W) := by
  unfold tRaise at q
  split at q
  · split at q
    · rename_i hc
      obtain ⟨h1, h2, h3⟩ := hc
      split at q
      · rename_i i te ei ee
        cases q
        have hi := List.mem_of_find?_eq_some ei
        have hn := List.find?_some ei
        simp only [decide_eq_true_eq] at hn
        obtain ⟨b, fI, fd, px, m1, m2, m3, m4, m5, m6, m7, m8⟩ := c.gok.xcs i hi
        rw [← c.hK] at m2 m3 m4 m5 m6 m7 m8
        rw [hn] at m1
        refine L2N.ps_raise c.calm c.tk (pmk_x m2 m4 m5 m6 m7 c.room2 m8 ?_ h1 m1 h3 (h _ _ ee))
        unfold Gl Env.kindOf
        rw [c.hsc]
        exact h2
      · cases q
    · cases q
  · cases q
theorem KOk.bk (c : KOk g lev X N sc W) : X.env.blockKind = .function := by unfold Env.blockKind; rw [c.kind]; rfl
theorem tAsgG_ok (c : KOk g lev X N sc W) (h : SE X W f) {tg v : Expr} {pos : Pos} {t : WX → TS} (q : tAsgG g f N sc tg v = some t) : PS X (.Assign [tg] v pos) (t W) := by
  unfold tAsgG at q
  split at q
  · rename_i hc
    obtain ⟨h1, h2, h3⟩ := hc
    split at q
    · rename_i e1 e2
      cases q
      refine ps_asg (h _ _ e2) (tG_ok c.toCOk h (fun x _ => c.hfn x) 12 _ _ e1) ?_ (tupPair_ok h1) (by rw [assign_star h2]; rfl)
      show swapsWith v (some tg) pos.line X.env = pure false
      rcases h3 with h3 | h3
      · exact notComp_sw h3
      · cases tg <;> first | (exact absurd h3.symm Bool.false_ne_true) | (cases v <;> rfl)
    · cases q
  · cases q
theorem tParS_ok (c : KOk g lev X N sc W) (h : SE X W f) {tg v : Expr} {pos : Pos} {t : WX → TS} (q : tParS g f N sc tg v = some t) : PS X (.Assign [tg] v pos) (t W) := by
  unfold tParS at q
  split at q
  · rename_i ts k p vs k2 p2
    split at q
    · rename_i nm ta e1 e2
      obtain ⟨a1, a2, a3⟩ := tArgs_ok h e2
      split at q
      · split at q
        · rename_i hc
          obtain ⟨l1, l2, ne, hsw⟩ := hc
          split at q
          · rename_i i j i1 i2
            cases q
            have hij : i ≠ j := fun e => ne (by
              have z1 := ix_get i1; have z2 := ix_get i2
              rw [e] at z1; rw [z1] at z2; exact Option.some.inj z2)
            refine PS_imp (ps_par (X := X) (pos := pos) c.calm c.nd (by rw [c.hN]; exact ix_get i1) (by rw [c.hN]; exact ix_get i2) hij (by rw [c.hsc]; exact l1) (by rw [c.hsc]; exact l2) (PA_up a1) (swR_ok c.bk c.hsc hsw) rfl) fun D σ H q => ⟨_, q, fun vs H1 q => ?_⟩
            try dsimp only at q
            split at q
            · exact ⟨_, _, rfl, q⟩
            · exact q.elim
          · cases q
        · cases q
      · split at q
        · rename_i hc
          obtain ⟨l1, l2, l3, ne1, ne2, ne3, hsw⟩ := hc
          split at q
          · rename_i i j l i1 i2 i3
            cases q
            have dif : ∀ {a b : Str} {m n : Nat}, a ≠ b → ix? N a = some m → ix? N b = some n → m ≠ n := fun ne i1 i2 e => ne (by
              have z1 := ix_get i1; have z2 := ix_get i2
              rw [e] at z1; rw [z1] at z2; exact Option.some.inj z2)
            refine PS_imp (ps_par3 (X := X) (pos := pos) c.calm c.nd (by rw [c.hN]; exact ix_get i1) (by rw [c.hN]; exact ix_get i2) (by rw [c.hN]; exact ix_get i3) (dif ne1 i1 i2) (dif ne2 i1 i3) (dif ne3 i2 i3) (by rw [c.hsc]; exact l1) (by rw [c.hsc]; exact l2) (by rw [c.hsc]; exact l3) (PA_up a1) (swR_ok c.bk c.hsc hsw) rfl) fun D σ H q => ⟨_, q, fun vs H1 q => ?_⟩
            try dsimp only at q
            split at q
            · exact ⟨_, _, _, rfl, q⟩
            · exact q.elim
          · cases q
        · cases q
      · cases q
    · rename_i ta e1 e2
      obtain ⟨a1, a2, a3⟩ := tArgs_ok h e2
      split at q
      · rename_i gs e3
        split at q
        · rename_i hs
          cases q
          have z := tGs_ok (okc := fun _ => true) c.toCOk h (fun x _ => c.hfn x) 12 _ _ e3
          refine ps_asg (pe_tup a1) ⟨fun pins s σ H v w Q I r hw => (pg_tup c.calm z assign_len (assign_none hs)).run pins s σ H v w Q I r ?_⟩ rfl (swR_ok c.bk c.hsc e1) rfl
          simp only [cTupG] at hw
          split at hw
          · split at hw
            · rename_i e; exact ⟨_, _, rfl, by rw [c.hK]; exact look_tup e, hw.1, hw.2⟩
            · exact hw.elim
          · exact hw.elim
        · cases q
      · cases q
    · cases q
  · cases q

theorem ps_orLock {st : Stmt} {t : TS} (h : PS X st t) : PS X st (fun D σ H => t D σ H ∨ tLock t D σ H) :=
  ⟨fun pins s σ H D I q => q.elim (fun q => h.run pins s σ H D I q) fun q => (ps_lock h).run pins s σ H D I q⟩
theorem seE (c : COk g lev X N sc W) (n : Nat) : SE X W (tE g n N sc) := fun e t q => (tET_ok g n).1 _ _ e t q c
theorem seT (c : COk g lev X N sc W) (n : Nat) : ST X W (tT g n N sc) := fun e t q => (tET_ok g n).2 _ _ e t q c
theorem sw_off {env : Env} {sc scope : Scope} {y : Str} {lb : Bool} (hs : env.scope = sc) (h : sc.names.lookup y ≠ some .local ∨ lb = false ∨ anyOwn scope y = true) :
    (env.blockKind == .function && env.kindOf y == some .local && lb && !(scope.names.any fun (n, k) => n == y && (k == .local || k == .cell))) = false := by
  rcases h with h | h | h
  · have : (env.kindOf y == some NameKind.local) = false := by
      unfold Env.kindOf; rw [hs]; exact beq_eq_false_iff_ne.mpr h
    rw [this]; simp
  · rw [h]; simp
  · have : (scope.names.any fun (n, k) => n == y && (k == .local || k == .cell)) = true := h
    rw [this]; simp
theorem tSetLc2_ok (c : KOk g lev X N sc W) {n : Nat} {y : Str} {py : Pos} {elt : Expr} {gs : List Comprehension} {scope : Scope} {pos2 pos : Pos} {t : WX → TS} (q : tSetLc2 g n N sc y py elt gs scope pos2 = some t) : PS X (.Assign [.Name y py] (.ListComp elt gs scope pos2) pos) (t W) := by
  have c0 := c.toCOk
  unfold tSetLc2 at q
  split at q
  · rename_i hc
    split at q
    · rename_i e1 e2
      cases q
      refine ps_asg (seE c0 n _ _ e2) (tG_ok c0 (seE c0 n) (fun x _ => c.hfn x) 12 _ _ e1) ?_ rfl rfl
      refine Eq.trans (sw_cond (l := pos.line)) ?_
      refine congrArg (pure : Bool → Sem Bool) ?_
      exact sw_off c.hsc hc
    · cases q
  · cases q
theorem tSetLc_ok (c : KOk g lev X N sc W) {n : Nat} {tg v : Expr} {pos : Pos} {t : WX → TS} (q : tSetLc g n N sc tg v = some t) : PS X (.Assign [tg] v pos) (t W) := by
  have c0 := c.toCOk
  unfold tSetLc at q
  split at q
  · split at q
    · rename_i hc
      obtain ⟨h0, h1, h2, h3, h4⟩ := hc
      split at q
      · rename_i i wi gt tt te e1 e2 e3 e4 e5
        cases q
        obtain ⟨i1, i2⟩ := tI_ok c0 (seE c0 n) e2
        have ok : BlkOk X.N X.env.scope _ _ := blkOk_by (by rw [c.hN, c.hsc]; exact h4)
        refine ps_orLock (PS_imp (ps_setLc c.calm c.nd (by rw [c.hN]; exact ix_get e1) (by rw [c.hsc]; exact h1) (sw_true c.kind (by rw [c.hsc]; exact h1) h2 h3) (PI_up i1) ok (fun s H C cl fp => tG_ok (cok_blk c0) (seE (cok_blk c0) n) blk_fn 12 _ _ e3)
          (fun s H C cl fp => tIfs_ok (seT (cok_blk c0) n) e4) (fun s H C cl fp => seE (cok_blk c0) n _ _ e5) (fun x => notSet_f i2)) fun D σ H h => ⟨_, h, fun J H' q D hD => lpc_W (q D hD)⟩)
      · cases q
    · exact tSetLc2_ok c q
  · exact tSetLc2_ok c q
  · cases q
theorem tAssign_ok (c : KOk g lev X N sc W) {n : Nat} {tg v : Expr} {pos : Pos} {t : WX → TS} (q : tAssign g n N sc tg v = some t) : PS X (.Assign [tg] v pos) (t W) := by
  have c0 := c.toCOk
  unfold tAssign at q
  split at q
  · split at q
    · rename_i hb
      split at q
      · rename_i e1 e2 e3
        cases q
        refine PS_imp (ps_fld (PE_up (seE c0 n _ _ e2)) (PE_up (seE c0 n _ _ e3)) ?_) fun D σ H q => ⟨_, q, fun y H1 q => ⟨_, q, fun x H2 q => ?_⟩⟩
        · cases v <;> rfl
        · try dsimp only at q
          split at q
          · split at q
            · rename_i ea
              obtain ⟨k1, k2⟩ := c.gok.ats _ (lookup_mem e1) _ q.1
              rw [c.hK]
              exact ⟨_, _, _, _, rfl, ea, k1, k2, q.2.1, q.2.2⟩
            · exact q.elim
          · exact q.elim
      · cases q
    · cases q
  · split at q
    · rename_i e; cases q; exact tSetLc_ok c e
    · split at q
      · rename_i e; cases q; exact tParS_ok c (seE c0 n) e
      · exact tAsgG_ok c (seE c0 n) q
theorem tBody_ok {f : Stmt → WX → TS} (h : ∀ st, PS X st (f st W)) : ∀ (l : List Stmt), PSs X l (tBody f l W)
  | [] => pss_nil
  | [s] => pss_one (h s)
  | s :: s2 :: r => show PSs X _ (tSeq (f s W) (tBody f (s2 :: r) W)) from pss_cons (h s) (tBody_ok h (s2 :: r))
theorem iopR_ok (c : COk g lev X N sc W) {op : Operator} {r : R2} (h : iopR g.K op = some r) : OpR X (inplaceOp op) r := by
  unfold iopR at h
  rw [← c.hK] at h
  split at h <;> cases h
  · exact r_iadd
  · exact r_isub
theorem aug_ok (c : KOk g lev X N sc W) {n : Nat} {x : Str} {px pos : Pos} {op : Operator} {v : Expr} {k : NameKind} {i : Nat} {r : R2} {tv : WX → TE} (hk : sc.names.lookup x = some k) (hkk : k = .local ∨ k = .cell) (hi : ix? N x = some i) (hr : iopR g.K op = some r) (hv : tE g n N sc v = some tv) :
    PS X (.AugAssign (.Name x px) op v pos) (cAug i (tv W) r) := by
  refine PS_imp (ps_aug (ti := r) c.nd (by rw [c.hN]; exact ix_get hi) ?_ (PE_up (seE c.toCOk n _ _ hv)) (iopR_ok c.toCOk hr) (.inl (c.hfn x))) fun D σ H q => ?_
  · unfold L2.Loc; rw [c.hsc, hk]; rcases hkk with rfl | rfl <;> simp
  · unfold cAug at q
    split at q
    · rename_i x e; exact ⟨x, e, _, q, fun _ _ q => q⟩
    · exact q.elim
theorem fldaug_ok (c : KOk g lev X N sc W) {n : Nat} {o v : Expr} {a : Str} {p pos : Pos} {cs : List Addr} {to tv : WX → TE} (sub : Bool) (h1 : g.ats.lookup a = some cs) (h2 : tE g n N sc o = some to) (h3 : tE g n N sc v = some tv) :
    PS X (.AugAssign (.Attribute o a p) (if sub then .Sub else .Add) v pos) (cFldAug cs a sub (to W) (tv W)) := by
  have c0 := c.toCOk
  have key : ∀ (rd : V → V → Hp → VK → Prop) (hop : InOp X (if sub then .Sub else .Add) rd), (∀ i j H Q, Q (.int (if sub then i - j else i + j)) H → rd (.int i) (.int j) H Q) → PS X (.AugAssign (.Attribute o a p) (if sub then .Sub else .Add) v pos) (cFldAug cs a sub (to W) (tv W)) := fun rd hop hrd => by
    refine PS_imp (ps_fldaug (PE_up (seE c0 n _ _ h2)) (PE_up (seE c0 n _ _ h3)) hop) fun D σ H q => ⟨_, q, fun x H1 q => ?_⟩
    try dsimp only at q
    split at q
    · split at q
      · rename_i ea
        obtain ⟨hC, q⟩ := q
        obtain ⟨k1, k2⟩ := c.gok.ats _ (lookup_mem h1) _ hC
        rw [c.hK]
        split at q
        · rename_i el
          refine ⟨_, _, _, _, _, rfl, ea, k1, k2, el, _, q, fun y H2 q => ?_⟩
          try dsimp only at q
          split at q
          · split at q
            · rename_i eb
              obtain ⟨rfl, hl, q⟩ := q
              exact hrd _ _ _ _ ⟨_, _, eb, hl, q⟩
            · exact q.elim
          · exact q.elim
        · exact q.elim
      · exact q.elim
    · exact q.elim
  cases sub with
  | true => exact key rSub in_sub fun i j H Q q => ⟨i, j, rfl, rfl, q⟩
  | false => exact key rAdd in_add fun i j H Q q => ⟨i, j, rfl, rfl, q⟩
theorem lpw_W {c : TT} {tb : TS} {D : Ends} {σ : St} {H : Hp} (h : ∃ n, lpw c tb D n σ H) : tWhile (upT c) tb D σ H := by
  obtain ⟨n, h⟩ := h
  refine ⟨fun m σ H => lpw c tb D m σ H, ⟨n, h⟩, fun m σ H w => ?_⟩
  cases m with
  | zero => exact w.elim
  | succ m =>
    refine ⟨_, w, fun b H1 q => ?_⟩
    cases b with
    | true => exact iteT ⟨_, fun σ' H' z => ⟨m, Nat.lt_succ_self _, z⟩, by simpa using q⟩
    | false => exact iteF (by simpa using q)
/-- THE READING OF STATEMENTS IS RIGHT -/
theorem tS_ok : ∀ (n : Nat) {X : Cx} {W : WX} (c : KOk g lev X N sc W) (st : Stmt), PS X st (tS g n N sc st W)
  | 0, X, W, c, st => ps_bad
  | n + 1, X, W, c, st => by
    have c0 := c.toCOk
    have ih := fun st => tS_ok n c st
    unfold tS
    split
    · exact ps_pass
    · exact ps_break
    · exact ps_continue
    · split
      · rename_i hn
        refine orBad_ok fun t q => ?_
        obtain ⟨u, hu, rfl⟩ := Option.map_eq_some_iff.mp q
        exact ps_expr (seE c0 n _ _ hu) (notComp_sw hn)
      · exact ps_bad
    · exact ps_retN
    · refine orBad_ok fun t q => ?_
      obtain ⟨u, hu, rfl⟩ := Option.map_eq_some_iff.mp q
      exact ps_ret (seE c0 n _ _ hu)
    · exact orBad_ok fun t q => tAssign_ok c q
    · refine orBad_ok fun t q => ?_
      split at q
      · rename_i e1 e2 e3 e4; cases q; exact aug_ok c e1 (.inl rfl) e2 e3 e4
      · rename_i e1 e2 e3 e4; cases q; exact aug_ok c e1 (.inr rfl) e2 e3 e4
      · cases q
    · refine orBad_ok fun t q => ?_
      split at q
      · rename_i e1 e2 e3; cases q; exact fldaug_ok c false e1 e2 e3
      · cases q
    · refine orBad_ok fun t q => ?_
      split at q
      · rename_i e1 e2 e3; cases q; exact fldaug_ok c true e1 e2 e3
      · cases q
    · split
      · rename_i e; exact ps_if (seT c0 n _ _ e) (tBody_ok ih _) (tBody_ok ih _)
      · exact ps_bad
    · split
      · rename_i e
        exact PS_imp (ps_while c.hp (PT_up (seT c0 n _ _ e)) (tBody_ok ih _)) fun D σ H q => lpw_W q
      · exact ps_bad
    · split
      · rename_i e1 e2
        obtain ⟨i1, i2⟩ := tI_ok c0 (seE c0 n) e1
        refine ps_orLock (PS_imp (ps_for c.hp c.calm (PI_up i1) (tG_ok c0 (seE c0 n) (fun x _ => c.hfn x) 12 _ _ e2) (tBody_ok ih _) (fun x => notSet_f i2)) fun D σ H q => ⟨_, q, fun J H1 q => lp_W q⟩)
      · exact ps_bad
    · exact orBad_ok fun t q => tRaise_ok c (seE c0 n) q
    · rw [← c.hK]
      exact ps_tryW c.stk c.fr c.nd c.tk (fun W' pn xe tk' hp' => tBody_ok (fun st => tS_ok n (c.tr tk' hp') st) _) (tCl_ok c0.b c.hfn c.kind _)
    · exact ps_bad
end
end WR

set_option Elab.async false
set_option linter.all false
set_option maxRecDepth 100000
set_option maxHeartbeats 4000000
namespace WR
open PySem PySem.Spec PyProof.Rows L2

/-! ## defs keep the reading of their bodies -/
/-- a def of the text: its statement, all its names (parameters first), its parameters -/
structure Df where
  at_ : Str × Option Str
  name : Str
  qual : Str
  st : Stmt
  N : List Str
  P : List Str
  dfl : List He.Dv := []
  kwd : List (Str × He.Dv) := []
  hot : Bool := false   -- read as it runs while an exception is handled
  xn : Str := ""   -- the parameter that holds that exception
def Df.d (d : Df) : He.DefD := ⟨d.at_, d.name, d.qual, defArgs d.st, defBody d.st, defScope d.st, d.dfl, d.kwd⟩
/-- what a def does: its body's reading, the table g behind it -/
def xeOf (d : Df) (xi : XI) : Option XeI := xi.map fun i => ⟨d.xn, i.1, i.2.1, i.2.2⟩
theorem xiOf_xeOf {d : Df} {xi : XI} : xiOf (xeOf d xi) = xi := by cases xi <;> rfl
def wpDf (g : G) (m : Nat) (d : Df) (xi : XI) : Sp := fun vs H Q E => vs.length = d.P.length ∧
  (if d.hot = true then sBody (hS g d.N (defScope d.st) (xeOf d xi) m) (defBody d.st) { nx := fun _ H' => Q .non H', rt := Q } (start d.N vs) H
  else tBody (tS g m d.N (defScope d.st)) (defBody d.st) (fun cls dd _ H => E cls dd H) { nx := fun _ H' => Q .non H', rt := Q } (start d.N vs) H)
section
variable {P : Program} {w : World} {mg : Str → Option Value} {base : Heap} {g : G} {lev : Nat}
theorem df_ofH {dvs : List V} {kws : List (Str × V)} {x qual : Str} {d : Df} {f : Addr} {fd : FuncData} (hh : d.hot = true) (F : FunD g.K x qual (defArgs d.st) (defBody d.st) (defScope d.st) dvs kws f fd) (S : FnScope d.N d.P (defScope d.st)) (ok : GOk g P w mg base lev) (m : Nat) :
    FnHW P w g.K mg base (L2N.CX P w) (lev + 6) f fd d.P (wpDf g m d) := by
  refine fnHW_of (k := lev + 5) F S (fun xi vs H Q E h => h.1) fun cdv xi A outer s H vs Q E hr gd hot h => ?_
  obtain ⟨_, h⟩ := h
  rw [if_pos hh] at h
  have c : HOkc g (cxW (L2N.CX P w) P w g.K mg base d.N qual (defScope d.st) f cdv A outer s H E) d.N (defScope d.st) (xeOf d xi) := {
    gok := ⟨lev, ok⟩, hK := rfl, hN := rfl, hsc := rfl, nd := S.nd, gd := gd, un := by have := hr.un; show (A.deeper _).units + 200 < cLine; omega, room := ⟨lev, ok, hr.mono (Nat.le_add_right lev 5)⟩, hot := by rw [xiOf_xeOf]; exact hot }
  exact ⟨_, sBody_ok (fun st => hS_ok c (fun _ => rfl) S.kind m st) _, h⟩
/-- what is asked of the def that makes a lambda -/
structure LamD (g : G) (mg : Str → Option Value) (base : Heap) (f : Addr) (qual : Str) (L : LamI) : Prop where
  code : codeAt g.K f = .ref L.c
  qual : L.q = qual ++ ".<locals>." ++ "<lambda>"
  tb : LamX.TabB base mg L.c L.P
  mem : (L.P, L.q) ∈ g.Ts
  uni : ∀ p ∈ g.Ts, p.1 = L.P → p.2 = L.q
theorem df_of {params : Arguments} {dvs : List V} {kws : List (Str × V)} {x qual : Str} {d : Df} {f : Addr} {fd : FuncData} (F : FunD g.K x qual (defArgs d.st) (defBody d.st) (defScope d.st) dvs kws f fd) (S : FnScope d.N d.P (defScope d.st)) (ok : GOk g P w mg base lev)
    (hlam : ∀ p, g.lam = some p → p.1 = d.N → LamD g mg base f qual p.2) (m : Nat) :
    FnW P w g.K mg base (L2N.CX P w) (lev + 6) f fd d.P (wpDf g m d none) := by
  cases hh : d.hot with
  | true => exact (df_ofH hh F S ok m).w
  | false =>
    refine fnW_of (k := lev + 5) F S (fun vs H Q E h => h.1) fun cdv hcd A outer s H vs Q E hr gd h => ?_
    obtain ⟨_, h⟩ := h
    rw [hh, if_neg Bool.false_ne_true] at h
    have c : KOk g lev (cxOf (L2N.CX P w) P w g.K mg base d.N qual (defScope d.st) f cdv A outer s H E) d.N (defScope d.st) (fun cls dd _ H => E cls dd H) := {
      gok := ok, hK := rfl, hN := rfl, hsc := rfl, nd := S.nd, calm := rfl, tk := L2N.takes_of rfl rfl rfl rfl, room := hr.mono (by omega), gd := gd, room2 := hr.mono (by omega), lam := fun p h1 h2 => ⟨⟨(hlam p h1 h2).tb, hcd.trans (hlam p h1 h2).code, (hlam p h1 h2).qual, (hlam p h1 h2).mem, (hlam p h1 h2).uni⟩, hr⟩, hp := passes_of rfl, stk := rfl, fr := rfl, hfn := fun _ => rfl, kind := S.kind }
    exact ⟨_, tBody_ok (fun st => tS_ok m c st) _, h⟩
end

/-! ## the table at each depth -/
/-- a call pattern: the def's name, how many values are written, the keywords, the order -/
structure Cp where
  name : Str
  n : Nat
  ks : List Str
  arr : List V → List V → List V
structure Cm where
  cls : Addr
  name : Str
  n : Nat
  ks : List Str
  arr : List V → List V → List V
  df : Str
structure Ck where
  name : Str
  cls : Addr
  n : Nat
  ks : List Str
  arr : List V → List V → List V
  df : Str
structure Tb where
  K : PySem.W.Frag
  cps : List Cp
  cons : List (Str × V)
  blt : List Str
  cms : List Cm
  cks : List Ck
  ats : List (Str × List Addr)
  nes : List (Str × Addr)
  xcs : List XcI := []
  tps : List (Str × List V) := []
  hcs : List (Str × Cp) := []   -- what suites call: the key of the def that is read so, the pattern
  lams : List (Str × LamI) := []   -- the defs that make lambdas
/-- the table, the defs promising S -/
def gOf (t : Tb) (S : Str → XI → Sp) : G where
  K := t.K
  fns := t.cps.map fun c => ⟨c.name, c.n, c.ks, c.arr, S c.name none⟩
  cons := t.cons
  blt := t.blt
  mts := t.cms.map fun c => ⟨c.cls, c.name, c.n, c.ks, c.arr, S c.df none⟩
  mks := t.cks.map fun c => ⟨c.name, c.cls, c.n, c.ks, c.arr, S c.df none⟩
  ats := t.ats
  nes := t.nes
  xcs := t.xcs
  tps := t.tps
  hfs := t.hcs.map fun c => ⟨c.2.name, c.2.n, c.2.ks, c.2.arr, S c.1⟩
  Ts := t.lams.map fun x => (x.2.P, x.2.q)
/-- .. as the def of the key x sees it -/
def gOfL (t : Tb) (S : Str → XI → Sp) (x : Str) (d : Df) : G := { gOf t S with lam := (t.lams.lookup x).map fun L => (d.N, L) }
/-- the promises of all defs, n calls deep -/
def spAt (t : Tb) (m : Nat) (ds : List (Str × Df)) : Nat → Str → XI → Sp
  | 0 => fun _ _ _ _ _ _ => False
  | n + 1 => fun x => match ds.lookup x with
    | some d => wpDf (gOfL t (spAt t m ds n) x d) m d
    | none => fun _ _ _ _ _ => False
theorem spAt_succ {t : Tb} {m : Nat} {ds : List (Str × Df)} {n : Nat} {x : Str} {d : Df} (h : ds.lookup x = some d) : spAt t m ds (n + 1) x = wpDf (gOfL t (spAt t m ds n) x d) m d := by
  show (match ds.lookup x with | some d => wpDf (gOfL t (spAt t m ds n) x d) m d | none => fun _ _ _ _ _ => False) = _
  rw [h]

/-- a promise that is never kept is any def's -/
theorem fnW_false {P : Program} {w : World} {K : PySem.W.Frag} {mg : Str → Option Value} {base : Heap} {k : Nat} {f : Addr} {fd : FuncData} {ps : List Str} : FnW P w K mg base (L2N.CX P w) k f fd ps (fun _ _ _ _ => False) := FnW.false_

/-- what the top has written: facts that are independent of the promises. fa, fd: where each def stands -/
structure TOk (t : Tb) (ds : List (Str × Df)) (mg : Str → Option Value) (fa : Str → Addr) (fd : Str → FuncData) : Prop where
  fun_ : ∀ p ∈ ds, FnScope p.2.N p.2.P (defScope p.2.st) ∧ ∃ x dvs kws, FunD t.K x p.2.qual (defArgs p.2.st) (defBody p.2.st) (defScope p.2.st) dvs kws (fa p.1) (fd p.1)
  cps : ∀ c ∈ t.cps, mg c.name = some (.ref (fa c.name)) ∧ PySem.W.keepIn t.K (.ref (fa c.name)) = true ∧ ∃ d gf, ds.lookup c.name = some d ∧ KBn t.K (fd c.name) d.P c.n c.ks gf c.arr
  cons : ∀ p ∈ t.cons, ∃ u, mg p.1 = some u ∧ RelV p.2 u
  blt : ∀ x ∈ t.blt, mg x = none
  cms : ∀ m ∈ t.cms, Cls t.K m.cls ∧ Meth t.K m.cls m.name (fa m.df) ∧ ∃ d gf, ds.lookup m.df = some d ∧ KBn t.K (fd m.df) d.P (m.n + 1) m.ks gf (fun vs zs => match vs with | v :: r => v :: m.arr r zs | [] => [])
  cks : ∀ m ∈ t.cks, mg m.name = some (.ref m.cls) ∧ Mk t.K m.cls (fa m.df) ∧ ∃ d gf, ds.lookup m.df = some d ∧ KBn t.K (fd m.df) d.P (m.n + 1) m.ks gf (fun vs zs => match vs with | v :: r => v :: m.arr r zs | [] => [])
  ats : ∀ p ∈ t.ats, ∀ C ∈ p.2, Cls t.K C ∧ NoAttr t.K C p.1
  nes : ∀ p ∈ t.nes, ownB t.K p.2 = true
  nec : ∀ p ∈ t.nes, Cls t.K p.2
  sys : sysB t.K = true
  xcs : ∀ x ∈ t.xcs, ∃ b fI fd px, mg x.name = some (.ref x.C) ∧ XcC t.K b x.C ∧ XfC t.K x.C ∧ PySem.W.findIn t.K (.ref x.C) x.f = some none ∧ PySem.W.findIn t.K (.ref x.C) "__init__" = some (some (.ref fI)) ∧
    PySem.W.typeIn t.K (.ref fI) = some (.type "function") ∧ (∀ (P : Program) (w : World) (base : Heap), FnOk P w t.K mg base (L2N.CX P w) 1 fI fd ["self", px] (spX b t.K x.f)) ∧ Binds t.K fd ["self", px] []
  tps : ∀ p ∈ t.tps, ∃ a, mg p.1 = some (.ref a) ∧ kobj t.K a = some (.tup p.2) ∧ tupB t.K a = true
  hcs : ∀ c ∈ t.hcs, mg c.2.name = some (.ref (fa c.1)) ∧ PySem.W.keepIn t.K (.ref (fa c.1)) = true ∧ ∃ d gf, ds.lookup c.1 = some d ∧ d.hot = true ∧ KBn t.K (fd c.1) d.P c.2.n c.2.ks gf c.2.arr
  lams : ∀ p ∈ t.lams, (∀ d, ds.lookup p.1 = some d → p.2.q = d.qual ++ ".<locals>." ++ "<lambda>") ∧ codeAt t.K (fa p.1) = .ref p.2.c ∧ ∀ r ∈ t.lams, r.2.P = p.2.P → r.2.q = p.2.q
section
variable {P : Program} {w : World} {t : Tb} {m : Nat} {ds : List (Str × Df)} {mg : Str → Option Value} {base : Heap} {fa : Str → Addr} {fd : Str → FuncData}
theorem spAt_okH (T : TOk t ds mg fa fd) (TB : ∀ p ∈ t.lams, LamX.TabB base mg p.2.c p.2.P) : ∀ (n : Nat) (x : Str) (d : Df), ds.lookup x = some d → FnW P w t.K mg base (L2N.CX P w) (6 * n) (fa x) (fd x) d.P (spAt t m ds n x none) ∧ (d.hot = true → FnHW P w t.K mg base (L2N.CX P w) (6 * n) (fa x) (fd x) d.P (spAt t m ds n x))
  | 0, x, d, h => ⟨fnW_false, fun _ => FnHW.false_⟩
  | n + 1, x, d, h => by
    have G : GOk (gOfL t (spAt t m ds n) x d) P w mg base (6 * n) := by
      refine ⟨fun f hf => ?_, T.cons, T.blt, fun f hf => ?_, fun f hf => ?_, T.ats, T.nes, T.nec, T.sys, fun x hx => ?_, T.tps, fun f hf => ?_⟩
      · obtain ⟨c, hc, rfl⟩ := List.mem_map.mp hf
        obtain ⟨h1, h2, d', gf, h3, h4⟩ := T.cps c hc
        exact ⟨fa c.name, fd c.name, d'.P, gf, h1, h2, (spAt_okH T TB n _ _ h3).1, h4⟩
      · obtain ⟨c, hc, rfl⟩ := List.mem_map.mp hf
        obtain ⟨h1, h2, d', gf, h3, h4⟩ := T.cms c hc
        exact ⟨fa c.df, fd c.df, d'.P, gf, h1, h2, (spAt_okH T TB n _ _ h3).1, h4⟩
      · obtain ⟨c, hc, rfl⟩ := List.mem_map.mp hf
        obtain ⟨h1, h2, d', gf, h3, h4⟩ := T.cks c hc
        exact ⟨fa c.df, fd c.df, d'.P, gf, h1, h2, (spAt_okH T TB n _ _ h3).1, h4⟩
      · obtain ⟨b, fI, fd, px, m1, m2, m3, m4, m5, m6, m7, m8⟩ := T.xcs x hx
        exact ⟨b, fI, fd, px, m1, m2, m3, m4, m5, m6, m7 P w base, m8⟩
      · obtain ⟨c, hc, rfl⟩ := List.mem_map.mp hf
        obtain ⟨h1, h2, d', gf, h3, hh, h4⟩ := T.hcs c hc
        exact ⟨fa c.1, fd c.1, d'.P, gf, h1, h2, (spAt_okH T TB n _ _ h3).2 hh, h4⟩
    rw [show spAt t m ds (n + 1) x = wpDf (gOfL t (spAt t m ds n) x d) m d from spAt_succ h]
    obtain ⟨S, _, _, _, F⟩ := T.fun_ (x, d) (PySem.mem_of_lookup h)
    refine ⟨df_of (g := gOfL t (spAt t m ds n) x d) (params := defArgs d.st) F S G (fun p hp hN => ?_) m, fun hh => df_ofH (g := gOfL t (spAt t m ds n) x d) hh F S G m⟩
    obtain ⟨L, hL, rfl⟩ := Option.map_eq_some_iff.mp (show (t.lams.lookup x).map (fun L => (d.N, L)) = some p from hp)
    have hm : (x, L) ∈ t.lams := PySem.mem_of_lookup hL
    obtain ⟨z1, z2, z3⟩ := T.lams _ hm
    refine ⟨z2, z1 d h, TB _ hm, List.mem_map.mpr ⟨_, hm, rfl⟩, fun r hr e => ?_⟩
    obtain ⟨r', hr', rfl⟩ := List.mem_map.mp (show r ∈ t.lams.map fun x => (x.2.P, x.2.q) from hr)
    exact z3 r' hr' e
theorem spAt_ok (T : TOk t ds mg fa fd) (TB : ∀ p ∈ t.lams, LamX.TabB base mg p.2.c p.2.P) (n : Nat) (x : Str) (d : Df) (h : ds.lookup x = some d) : FnW P w t.K mg base (L2N.CX P w) (6 * n) (fa x) (fd x) d.P (spAt t m ds n x none) := (spAt_okH T TB n x d h).1
end
theorem wpDf_ok {g : G} {m : Nat} {d : Df} {xi : XI} {vs : List V} {H : Hp} {Q : VK} {E : XK} (hh : d.hot = false) (hl : vs.length = d.P.length) (h : tBody (tS g m d.N (defScope d.st)) (defBody d.st) (fun cls dd _ H => E cls dd H) { nx := fun _ H' => Q .non H', rt := Q } (start d.N vs) H) : wpDf g m d xi vs H Q E := by
  refine ⟨hl, ?_⟩
  rw [hh, if_neg Bool.false_ne_true]
  exact h
theorem wpDf_okH {g : G} {m : Nat} {d : Df} {xi : XI} {vs : List V} {H : Hp} {Q : VK} {E : XK} (hh : d.hot = true) (hl : vs.length = d.P.length) (h : sBody (hS g d.N (defScope d.st) (xeOf d xi) m) (defBody d.st) { nx := fun _ H' => Q .non H', rt := Q } (start d.N vs) H) : wpDf g m d xi vs H Q E := by
  refine ⟨hl, ?_⟩
  rw [hh, if_pos rfl]
  exact h
end WR

set_option Elab.async false
set_option linter.all false
set_option maxRecDepth 100000
set_option maxHeartbeats 4000000
namespace WR
open PySem PySem.Spec PyProof.Rows L2

/-! ## the text in symbols: no address -/
structure Ym where   -- a method's call pattern
  cls : Str
  name : Str
  n : Nat
  ks : List Str := []
  arr : List V → List V → List V := fun vs _ => vs
/-- an own exception class that is raised: its base (B.__init__), the field, the parameter, its __init__ -/
structure Yx where
  name : Str
  b : WRX.XB
  base : Str
  f : Str
  px : Str
  df : Df
structure Sy where
  ds : List (Str × Df)
  cps : List Cp
  nums : List (Str × Int) := []
  txts : List (Str × Str) := []
  blt : List Str := []
  cms : List Ym := []
  cks : List Ym := []     -- name unused: __init__
  cls : List Str := []
  ats : List (Str × List Str) := []
  nes : List Str := []
  ex : PySem.W.Frag → Bool := fun _ => true
  xcs : List Yx := []
  xcl : List Str := []    -- exception classes that are named
  tps : List (Str × List V) := []   -- tuples of the top
  hcs : List (Str × Cp) := []   -- what suites call
  lams : List Str := []   -- the keys of the defs that make lambdas
def mkey (c m : Str) : Str := c ++ "." ++ m
/-- where the def of a key stands -/
def Sy.ad (y : Sy) (K : PySem.W.Frag) (x : Str) : Addr := match y.ds.lookup x with
  | some d => He.fAd K d.at_
  | none => 0
def addrOf : Value → Addr
  | .ref a => a
  | _ => 0
/-- the table of the code object at c -/
def tabOf (K : PySem.W.Frag) (c : Addr) : Addr := match K.lookup c with
  | some o => (match o.data with
    | .fields vs => addrOf (vs.getD 11 .none)
    | _ => 0)
  | none => 0
def lamOf (y : Sy) (K : PySem.W.Frag) (x : Str) : LamI := ⟨addrOf (codeAt K (y.ad K x)), tabOf K (addrOf (codeAt K (y.ad K x))), (match y.ds.lookup x with | some d => d.qual | none => Str.empty) ++ ".<locals>." ++ "<lambda>"⟩
def Sy.tb (y : Sy) (K : PySem.W.Frag) : Tb where
  K := K
  cps := y.cps
  cons := y.nums.map (fun p => (p.1, V.int p.2)) ++ y.txts.map (fun p => (p.1, V.str p.2)) ++ (y.cls.map (fun c => (c, V.ref (He.ga K c))) ++ y.xcl.map (fun c => (c, V.ref (He.ga K c))))
  blt := y.blt
  cms := y.cms.map fun m => ⟨He.ga K m.cls, m.name, m.n, m.ks, m.arr, mkey m.cls m.name⟩
  cks := y.cks.map fun m => ⟨m.cls, He.ga K m.cls, m.n, m.ks, m.arr, mkey m.cls "__init__"⟩
  ats := y.ats.map fun p => (p.1, p.2.map (He.ga K))
  nes := y.nes.map fun c => (c, He.ga K c)
  xcs := y.xcs.map fun x => ⟨x.name, He.ga K x.name, x.f⟩
  tps := y.tps
  hcs := y.hcs
  lams := y.lams.map fun x => (x, lamOf y K x)
def tpB (K : PySem.W.Frag) (p : Str × List V) : Bool := (He.Fa.glo p.1).ok K && (tupB K (He.ga K p.1) && (match kobj K (He.ga K p.1) with
  | some (.tup xs) => decide (xs = p.2)
  | _ => false))
/-- what is asked of the written part beyond the facts -/
def yxB (K : PySem.W.Frag) (x : Yx) : Bool := (He.Fa.glo x.name).ok K && ((He.Fa.glo x.base).ok K && (xcB K x.b (He.ga K x.name) && (xfB K (He.ga K x.name) && (xpB K x.b (He.ga K x.base) && (decide (PySem.W.findIn K (.ref (He.ga K x.name)) x.f = some none) &&
  (decide (PySem.W.findIn K (.ref (He.ga K x.name)) "__init__" = some (some (.ref (He.fAd K x.df.at_)))) && decide (PySem.W.typeIn K (.ref (He.fAd K x.df.at_)) = some (.type "function"))))))))
/-- a code object, its table told by it -/
def chB (K : PySem.W.Frag) (c P : Addr) : Bool := match K.lookup c with
  | some o => (match o.cls, o.data with
    | .type t, .fields vs => t == "code" && ((match vs[11]? with | some (Value.ref p) => p == P | _ => false) && ((match vs.getD 18 .none with | .str _ _ => true | _ => false) && ((match vs.getD 7 .none with | .int _ _ => true | _ => false) &&
      ((match vs.getD 9 .none with | .bool _ => true | _ => false) && ((match vs.getD 10 .none with | .int _ _ => true | _ => false) && c != P)))))
    | _, _ => false)
  | none => false
def lamB (y : Sy) (K : PySem.W.Frag) (x : Str) : Bool := (match codeAt K (y.ad K x) with | .ref _ => true | _ => false) && (chB K (lamOf y K x).c (lamOf y K x).P && y.lams.all fun z => (lamOf y K z).P != (lamOf y K x).P || decide ((lamOf y K z).q = (lamOf y K x).q))
def Sy.exB0 (y : Sy) (K : PySem.W.Frag) : Bool := (y.nes.all fun c => ownB K (He.ga K c)) && ((y.ex K && (y.xcs.all (yxB K) && (y.xcl.all (fun c => (He.Fa.glo c).ok K) && y.tps.all (tpB K)))) && sysB K)
def Sy.exB (y : Sy) (K : PySem.W.Frag) : Bool := (y.lams.all (lamB y K)) && y.exB0 K
def Sy.fa (y : Sy) : List He.Fa :=
  y.cps.map (fun c => .glo c.name) ++ (y.cls.map (fun c => .glo c) ++ (y.blt.map (fun x => .free x) ++ (y.nums.map (fun p => .int p.1 p.2) ++ (y.txts.map (fun p => .str p.1 p.2) ++
  (y.cls.map (fun c => .cls c) ++ (y.cms.map (fun m => .meth m.cls m.name) ++ (y.cks.map (fun m => .mkr m.cls) ++ y.ats.flatMap fun p => p.2.map fun c => .noat c p.1)))))))
def Sy.fn (y : Sy) : List He.DefD := (y.ds.map fun p => p.2.d) ++ y.xcs.map fun x => x.df.d
/-- a call pattern binds as it is told -/
def Kb (d : Df) (n : Nat) (ks : List Str) (arr : List V → List V → List V) : Prop :=
  ∀ K f fd, FunD K d.name d.qual (defArgs d.st) (defBody d.st) (defScope d.st) (d.d.dvs K) (d.d.kws K) f fd → ∃ gf, KBn K fd d.P n ks gf arr
def scB (d : Df) : Bool := decide ((defScope d.st).kind = .function) && (!(defScope d.st).isCoroutine && (!(defScope d.st).isGenerator && (decide d.N.Nodup && (decide (d.N.take d.P.length = d.P) &&
  (d.P.all (fun x => decide ((defScope d.st).names.lookup x = some .local ∨ (defScope d.st).names.lookup x = some .cell)) && (defScope d.st).names.all fun y => decide (y.2 ≠ .free))))))
theorem scB_ok {d : Df} (h : scB d = true) : FnScope d.N d.P (defScope d.st) := by
  unfold scB at h
  simp only [Bool.and_eq_true, Bool.not_eq_true', decide_eq_true_eq, List.all_eq_true] at h
  obtain ⟨h1, h2, h3, h4, h5, h6, h7⟩ := h
  exact ⟨h1, h2, h3, h4, h5, h6, h7⟩
structure XyOk (x : Yx) : Prop where
  dfl : x.df.dfl = []
  P : x.df.P = [("self" : Str), x.px]
  N : x.df.N = [("self" : Str), x.px]
  sc : scB x.df = true
  bd : xBody (defBody x.df.st) = some (x.base, x.f, x.px)
  pl : plainName x.px = true
  pb : plainName x.base = true
  gl : (defScope x.df.st).names.lookup x.base = some .globalImplicit
  bind : ∀ (kV doc pm : Value) (an : Option Addr) (cdv ct : Value) (us : List Value), us.length = x.df.P.length → bindArgs (PySem.W.fnOf x.df.name x.df.qual (defArgs x.df.st) (defBody x.df.st) (defScope x.df.st) .none kV doc pm an cdv ct) ⟨us, []⟩ = pure (x.df.P.zip us)
structure SyOk (y : Sy) : Prop where
  xcs : ∀ x ∈ y.xcs, XyOk x := by intro x h; cases h
  sc : (y.ds.all fun p => scB p.2) = true
  cps : ∀ c ∈ y.cps, ∃ d, y.ds.lookup c.name = some d ∧ d.at_ = (c.name, none) ∧ Kb d c.n c.ks c.arr
  cms : ∀ m ∈ y.cms, m.cls ∈ y.cls ∧ ∃ d, y.ds.lookup (mkey m.cls m.name) = some d ∧ d.at_ = (m.cls, some m.name) ∧ Kb d (m.n + 1) m.ks (fun vs zs => match vs with | v :: r => v :: m.arr r zs | [] => [])
  cks : ∀ m ∈ y.cks, m.cls ∈ y.cls ∧ ∃ d, y.ds.lookup (mkey m.cls "__init__") = some d ∧ d.at_ = (m.cls, some ("__init__" : Str)) ∧ Kb d (m.n + 1) m.ks (fun vs zs => match vs with | v :: r => v :: m.arr r zs | [] => [])
  ats : ∀ p ∈ y.ats, ∀ c ∈ p.2, c ∈ y.cls
  nes : ∀ c ∈ y.nes, c ∈ y.cls
  hcs : ∀ c ∈ y.hcs, (c.2.name ∈ y.cps.map (·.name)) ∧ ∃ d, y.ds.lookup c.1 = some d ∧ d.hot = true ∧ d.at_ = (c.2.name, none) ∧ Kb d c.2.n c.2.ks c.2.arr := by intro c h; cases h

/-! ### binding -/
section
variable {d : Df} {n : Nat} {ks : List Str} {arr arr' : List V → List V → List V}
theorem Kb.congr (h : Kb d n ks arr) (e : ∀ vs zs, arr' vs zs = arr vs zs) : Kb d n ks arr' := fun K f fd F => by
  obtain ⟨gf, k⟩ := h K f fd F
  have : arr' = arr := funext fun vs => funext fun zs => e vs zs
  exact ⟨gf, this ▸ k⟩
/-- every parameter written, no defaults -/
theorem kb_plain (hd : d.dfl = []) (h : ∀ (kV doc pm : Value) (an : Option Addr) (cdv ct : Value) (us : List Value), us.length = d.P.length → bindArgs (PySem.W.fnOf d.name d.qual (defArgs d.st) (defBody d.st) (defScope d.st) .none kV doc pm an cdv ct) ⟨us, []⟩ = pure (d.P.zip us)) :
    Kb d d.P.length [] (fun vs _ => vs) := fun K f fd F => by
  have F' : FunD K d.name d.qual (defArgs d.st) (defBody d.st) (defScope d.st) [] (d.d.kws K) f fd := by
    have : d.d.dvs K = [] := by unfold He.DefD.dvs Df.d; rw [hd]; rfl
    rw [this] at F; exact F
  exact ⟨fun us _ => us, ⟨fun s us ws X l1 l2 => F'.bindsA h s us l1, fun r1 r2 => r1⟩⟩
/-- keyword-only ones written, no defaults -/
theorem kb_kwM (hd : d.dfl = []) (h : ∀ (kV doc pm : Value) (an : Option Addr) (cdv ct u : Value) (us ws : List Value), us.length = n → ws.length = ks.length → bindArgs (PySem.W.fnOf d.name d.qual (defArgs d.st) (defBody d.st) (defScope d.st) .none kV doc pm an cdv ct) ⟨u :: us, ks.zip ws⟩ = pure (d.P.zip (u :: (us ++ ws)))) :
    Kb d (n + 1) ks (fun vs zs => match vs with | v :: r => v :: (fun vs zs => vs ++ zs) r zs | [] => []) := fun K f fd F => by
  have F' : FunD K d.name d.qual (defArgs d.st) (defBody d.st) (defScope d.st) [] (d.d.kws K) f fd := by
    have : d.d.dvs K = [] := by unfold He.DefD.dvs Df.d; rw [hd]; rfl
    rw [this] at F; exact F
  obtain ⟨oc, od, dV, kV, doc, pm, an, cdv, ct, osl, rfl, lk, hcd, hD, hK⟩ := F'.ex
  rcases hD with ⟨_, rfl⟩ | ⟨e, _⟩
  · refine ⟨fun us ws => match us with | u :: r => u :: (r ++ ws) | [] => [], ⟨fun s us ws X l1 l2 => ?_, fun {vs us zs ws} r1 r2 => ?_⟩⟩
    · cases us with
      | nil => cases l1
      | cons u us =>
        refine BindsTo.of_looks fun M => ?_
        rw [h kV doc pm an cdv ct u us ws (by simpa using l1) l2]
        exact PySem.W.Looks.of_pure rfl
    · cases r1 with
      | nil => exact .nil
      | cons a b => exact .cons a (Vals.append b r2)
  · exact absurd rfl e
/-- all positional ones written, the keyword-only ones by their defaults -/
theorem kb_kwD (kws : List (Str × V)) (hd : d.dfl = []) (hv : ∀ K, d.d.kws K = kws) (hk : kws ≠ []) (hn : (n + 1) + kws.length = d.P.length)
    (h : ∀ (D : Addr) (doc pm : Value) (an : Option Addr) (cdv ct : Value) (us zs : List Value), us.length = n + 1 → zs.length = kws.length →
      KwChain D ((kws.map (·.1)).zip zs) (bindArgs (PySem.W.fnOf d.name d.qual (defArgs d.st) (defBody d.st) (defScope d.st) .none (.ref D) doc pm an cdv ct) ⟨us, []⟩) (d.P.zip (us ++ zs))) :
    Kb d (n + 1) [] (fun vs zs => match vs with | v :: r => v :: (fun vs _ => vs ++ kws.map (·.2)) r zs | [] => []) := fun K f fd F => by
  have F' : FunD K d.name d.qual (defArgs d.st) (defBody d.st) (defScope d.st) [] kws f fd := by
    have : d.d.dvs K = [] := by unfold He.DefD.dvs Df.d; rw [hd]; rfl
    rw [this, hv K] at F; exact F
  obtain ⟨ds, r, b⟩ := F'.binds0 (n + 1) hk hn h
  refine ⟨fun us _ => match us with | u :: r => u :: (r ++ ds) | [] => [], ⟨fun s us ws X l1 l2 => ?_, fun {vs us zs ws} r1 r2 => ?_⟩⟩
  · cases ws with
    | cons w ws => cases l2
    | nil =>
      have z := b s us X (by rw [List.length_append, l1, ← r.length, List.length_map, hn])
      cases us with
      | nil => cases l1
      | cons u us => exact z
  · cases r1 with
    | nil => exact .nil
    | cons a z => exact .cons a (Vals.append z r)
/-- of a def: keyword-only ones written, no defaults -/
theorem kb_kwF (hd : d.dfl = []) (h : ∀ (kV doc pm : Value) (an : Option Addr) (cdv ct : Value) (us ws : List Value), us.length = n → ws.length = ks.length → bindArgs (PySem.W.fnOf d.name d.qual (defArgs d.st) (defBody d.st) (defScope d.st) .none kV doc pm an cdv ct) ⟨us, ks.zip ws⟩ = pure (d.P.zip (us ++ ws))) :
    Kb d n ks (fun vs zs => vs ++ zs) := fun K f fd F => by
  have F' : FunD K d.name d.qual (defArgs d.st) (defBody d.st) (defScope d.st) [] (d.d.kws K) f fd := by
    have : d.d.dvs K = [] := by unfold He.DefD.dvs Df.d; rw [hd]; rfl
    rw [this] at F; exact F
  obtain ⟨oc, od, dV, kV, doc, pm, an, cdv, ct, osl, rfl, lk, hcd, hD, hK⟩ := F'.ex
  rcases hD with ⟨_, rfl⟩ | ⟨e, _⟩
  · refine ⟨fun us ws => us ++ ws, ⟨fun s us ws X l1 l2 => ?_, fun {vs us zs ws} r1 r2 => Vals.append r1 r2⟩⟩
    refine BindsTo.of_looks fun M => ?_
    rw [h kV doc pm an cdv ct us ws l1 l2]
    exact PySem.W.Looks.of_pure rfl
  · exact absurd rfl e
/-- of a def: the keyword-only ones by their defaults -/
theorem kb_kwDF (kws : List (Str × V)) (hd : d.dfl = []) (hv : ∀ K, d.d.kws K = kws) (hk : kws ≠ []) (hn : n + kws.length = d.P.length)
    (h : ∀ (D : Addr) (doc pm : Value) (an : Option Addr) (cdv ct : Value) (us zs : List Value), us.length = n → zs.length = kws.length →
      KwChain D ((kws.map (·.1)).zip zs) (bindArgs (PySem.W.fnOf d.name d.qual (defArgs d.st) (defBody d.st) (defScope d.st) .none (.ref D) doc pm an cdv ct) ⟨us, []⟩) (d.P.zip (us ++ zs))) :
    Kb d n [] (fun vs _ => vs ++ kws.map (·.2)) := fun K f fd F => by
  have F' : FunD K d.name d.qual (defArgs d.st) (defBody d.st) (defScope d.st) [] kws f fd := by
    have : d.d.dvs K = [] := by unfold He.DefD.dvs Df.d; rw [hd]; rfl
    rw [this, hv K] at F; exact F
  obtain ⟨ds, r, b⟩ := F'.binds0 n hk hn h
  refine ⟨fun us _ => us ++ ds, ⟨fun s us ws X l1 l2 => ?_, fun {vs us zs ws} r1 r2 => Vals.append r1 r⟩⟩
  cases ws with
  | cons w ws => cases l2
  | nil => exact b s us X (by rw [List.length_append, l1, ← r.length, List.length_map, hn])
/-- every parameter written, by place or by name, in any order: idx tells which of the written ones each parameter takes -/
theorem vals_getD {vs : List V} {us : List Value} (r : Vals vs us) (i : Nat) : RelV (vs.getD i .non) (us.getD i .none) := by
  rw [List.getD_eq_getElem?_getD, List.getD_eq_getElem?_getD]
  cases e : vs[i]? with
  | some v =>
    obtain ⟨u, hu, rv⟩ := r.get e
    rw [hu]; exact rv
  | none =>
    have : us[i]? = none := by
      rw [List.getElem?_eq_none_iff] at e ⊢
      rw [← r.length]; exact e
    rw [this]; rfl
theorem vals_pick {vs : List V} {us : List Value} (r : Vals vs us) : ∀ idx : List Nat, Vals (idx.map fun i => vs.getD i .non) (idx.map fun i => us.getD i .none)
  | [] => .nil
  | i :: idx => .cons (vals_getD r i) (vals_pick r idx)
theorem kb_permM (idx : List Nat) (hd : d.dfl = []) (h : ∀ (kV doc pm : Value) (an : Option Addr) (cdv ct u : Value) (us ws : List Value), us.length = n → ws.length = ks.length → bindArgs (PySem.W.fnOf d.name d.qual (defArgs d.st) (defBody d.st) (defScope d.st) .none kV doc pm an cdv ct) ⟨u :: us, ks.zip ws⟩ = pure (d.P.zip (u :: idx.map fun i => (us ++ ws).getD i .none))) :
    Kb d (n + 1) ks (fun vs zs => match vs with | v :: r => v :: (fun vs zs => idx.map fun i => (vs ++ zs).getD i V.non) r zs | [] => []) := fun K f fd F => by
  have F' : FunD K d.name d.qual (defArgs d.st) (defBody d.st) (defScope d.st) [] (d.d.kws K) f fd := by
    have : d.d.dvs K = [] := by unfold He.DefD.dvs Df.d; rw [hd]; rfl
    rw [this] at F; exact F
  obtain ⟨oc, od, dV, kV, doc, pm, an, cdv, ct, osl, rfl, lk, hcd, hD, hK⟩ := F'.ex
  rcases hD with ⟨_, rfl⟩ | ⟨e, _⟩
  · refine ⟨fun us ws => match us with | u :: r => u :: idx.map (fun i => (r ++ ws).getD i Value.none) | [] => [], ⟨fun s us ws X l1 l2 => ?_, fun {vs us zs ws} r1 r2 => ?_⟩⟩
    · cases us with
      | nil => cases l1
      | cons u us =>
        refine BindsTo.of_looks fun M => ?_
        rw [h kV doc pm an cdv ct u us ws (by simpa using l1) l2]
        exact PySem.W.Looks.of_pure rfl
    · cases r1 with
      | nil => exact .nil
      | cons a b => exact .cons a (vals_pick (Vals.append b r2) idx)
  · exact absurd rfl e
theorem kb_plainM (hd : d.dfl = []) (hp : d.P.length = n + 1) (h : ∀ (kV doc pm : Value) (an : Option Addr) (cdv ct : Value) (us : List Value), us.length = d.P.length → bindArgs (PySem.W.fnOf d.name d.qual (defArgs d.st) (defBody d.st) (defScope d.st) .none kV doc pm an cdv ct) ⟨us, []⟩ = pure (d.P.zip us)) :
    Kb d (n + 1) [] (fun vs zs => match vs with | v :: r => v :: (fun vs _ => vs) r zs | [] => []) := by
  have k := kb_plain hd h
  rw [hp] at k
  exact k.congr fun vs zs => by cases vs <;> rfl
/-- positional defaults: the first j of all are written over -/
theorem kb_dfl (m j : Nat) (dvs : List V) (hv : ∀ K, d.d.dvs K = dvs) (hne : dvs ≠ []) (hn : m + (dvs.length - j) = d.P.length)
    (h : ∀ (T : Addr) (kV doc pm : Value) (an : Option Addr) (cdv ct : Value) (us its : List Value), us.length = m → its.length = dvs.length →
      ∃ k, bindArgs (PySem.W.fnOf d.name d.qual (defArgs d.st) (defBody d.st) (defScope d.st) (.ref T) kV doc pm an cdv ct) ⟨us, []⟩ = seqItems? (.ref T) >>= k ∧ k (some its.toArray) = pure (d.P.zip (us ++ its.drop j))) :
    Kb d m [] (fun vs _ => vs ++ dvs.drop j) := fun K f fd F => by
  rw [hv K] at F
  obtain ⟨ds, r, b⟩ := F.binds1 m j hne hn h
  refine ⟨fun us _ => us ++ ds, ⟨fun s us ws X l1 l2 => ?_, fun r1 r2 => r1.append r⟩⟩
  exact b s us X (by rw [List.length_append, l1, ← r.length, List.length_drop, hn])
end

/-! ### the table of a written part -/
theorem Sy.ad_of {y : Sy} {K : PySem.W.Frag} {x : Str} {d : Df} (h : y.ds.lookup x = some d) : y.ad K x = He.fAd K d.at_ := by
  unfold Sy.ad; rw [h]
section
variable {y : Sy} {K : PySem.W.Frag} {h : Heap} {mg : Str → Option Value}
theorem sy_tok (O : SyOk y) (X : K.In h) (G : h.Ns mainGlobals mg) (c : He.SaysD y.fa y.fn K) (nd : (y.ds.map (·.1)).Nodup) (he' : y.exB K = true) : ∃ fd : Str → FuncData, TOk (y.tb K) y.ds mg (y.ad K) fd ∧ ∀ p ∈ y.ds, FunD K p.2.name p.2.qual (defArgs p.2.st) (defBody p.2.st) (defScope p.2.st) (p.2.d.dvs K) (p.2.d.kws K) (y.ad K p.1) (fd p.1) := by
  have he : y.exB0 K = true := (Bool.and_eq_true_iff.mp he').2
  have hf : ∀ x : Str, ∃ fd : FuncData, ∀ d, y.ds.lookup x = some d → FunD K d.name d.qual (defArgs d.st) (defBody d.st) (defScope d.st) (d.d.dvs K) (d.d.kws K) (y.ad K x) fd := fun x => by
    cases e : y.ds.lookup x with
    | none => exact ⟨default, fun d z => nomatch z⟩
    | some d =>
      obtain ⟨fd, F⟩ := c.defs (d := d.d) (List.mem_append_left _ (List.mem_map.mpr ⟨(x, d), PySem.mem_of_lookup e, rfl⟩))
      refine ⟨fd, fun d' z => ?_⟩
      cases z
      rw [Sy.ad_of e]
      exact F
  have lk : ∀ p ∈ y.ds, y.ds.lookup p.1 = some p.2 := fun p hp => by
    have aux : ∀ l : List (Str × Df), (l.map (·.1)).Nodup → p ∈ l → l.lookup p.1 = some p.2 := by
      intro l
      induction l with
      | nil => intro _ h; cases h
      | cons q r ih =>
        intro hn hm
        rw [List.map_cons, List.nodup_cons] at hn
        obtain ⟨q1, q2⟩ := q
        rcases List.mem_cons.mp hm with e | hm
        · subst e; simp [List.lookup]
        · have ne : p.1 ≠ q1 := fun z => hn.1 (List.mem_map.mpr ⟨p, hm, z⟩)
          have e : (p.1 == q1) = false := by simpa using ne
          simp only [List.lookup, e]
          exact ih hn.2 hm
    exact aux _ nd hp
  refine ⟨fun x => Classical.choose (hf x), ?_, fun p hp => Classical.choose_spec (hf p.1) _ (lk p hp)⟩
  have F : ∀ x d, y.ds.lookup x = some d → FunD K d.name d.qual (defArgs d.st) (defBody d.st) (defScope d.st) (d.d.dvs K) (d.d.kws K) (y.ad K x) (Classical.choose (hf x)) := fun x d e => Classical.choose_spec (hf x) d e
  have exs : y.ex K = true ∧ (y.xcs.all (yxB K)) = true ∧ (y.xcl.all fun c => (He.Fa.glo c).ok K) = true ∧ y.tps.all (tpB K) = true := by
    have z := (Bool.and_eq_true_iff.mp (Bool.and_eq_true_iff.mp he).2).1
    simp only [Bool.and_eq_true] at z
    exact z
  have mem : ∀ f, f ∈ y.fa → f.ok K = true := fun f hm => c.facts hm
  have cglo : ∀ c ∈ y.cls, mg c = some (.ref (He.ga K c)) := fun c hc => He.glo_ok X G (mem _ (by
    unfold Sy.fa; exact List.mem_append_right _ (List.mem_append_left _ (List.mem_map.mpr ⟨c, hc, rfl⟩))))
  have cC : ∀ c ∈ y.cls, Cls K (He.ga K c) := fun c hc => He.cls_ok (mem _ (by
    unfold Sy.fa; exact List.mem_append_right _ (List.mem_append_right _ (List.mem_append_right _ (List.mem_append_right _ (List.mem_append_right _ (List.mem_append_left _ (List.mem_map.mpr ⟨c, hc, rfl⟩)))))))) 
  refine ⟨fun p hp => ⟨scB_ok (List.all_eq_true.mp O.sc p hp), _, _, _, F _ _ (lk p hp)⟩, fun c hc => ?_, fun p hp => ?_, fun x hx => ?_, fun m hm => ?_, fun m hm => ?_, fun p hp C hC => ?_, fun p hp => ?_, fun p hp => ?_, (Bool.and_eq_true_iff.mp (Bool.and_eq_true_iff.mp he).2).2, fun x hx => ?_, fun p hp => ?_, fun c hc => ?_, fun p hp => ?_⟩
  · obtain ⟨d, e1, e2, e3⟩ := O.cps c hc
    have g1 := He.glo_ok X G (x := c.name) (mem _ (by unfold Sy.fa; exact List.mem_append_left _ (List.mem_map.mpr ⟨c, hc, rfl⟩)))
    have ea : y.ad K c.name = He.ga K c.name := by rw [Sy.ad_of e1, e2]; rfl
    refine ⟨by rw [ea]; exact g1, (F _ _ e1).kp, d, ?_⟩
    obtain ⟨gf, k⟩ := e3 K _ _ (F _ _ e1)
    exact ⟨gf, e1, k⟩
  · rcases List.mem_append.mp hp with hp | hp
    · rcases List.mem_append.mp hp with hp | hp
      · obtain ⟨q, hq, rfl⟩ := List.mem_map.mp hp
        obtain ⟨t, e⟩ := He.int_ok X G (x := q.1) (i := q.2) (mem _ (by
          unfold Sy.fa; exact List.mem_append_right _ (List.mem_append_right _ (List.mem_append_right _ (List.mem_append_left _ (List.mem_map.mpr ⟨q, hq, rfl⟩))))))
        exact ⟨_, e, ⟨t, rfl⟩⟩
      · obtain ⟨q, hq, rfl⟩ := List.mem_map.mp hp
        obtain ⟨t, e⟩ := He.str_ok X G (x := q.1) (z := q.2) (mem _ (by
          unfold Sy.fa; exact List.mem_append_right _ (List.mem_append_right _ (List.mem_append_right _ (List.mem_append_right _ (List.mem_append_left _ (List.mem_map.mpr ⟨q, hq, rfl⟩)))))))
        exact ⟨_, e, ⟨t, rfl⟩⟩
    · rcases List.mem_append.mp hp with hp | hp
      · obtain ⟨q, hq, rfl⟩ := List.mem_map.mp hp
        exact ⟨_, cglo q hq, rfl⟩
      · obtain ⟨q, hq, rfl⟩ := List.mem_map.mp hp
        exact ⟨_, He.glo_ok X G (List.all_eq_true.mp exs.2.2.1 q hq), rfl⟩
  · exact He.free_ok X G (mem _ (by unfold Sy.fa; exact List.mem_append_right _ (List.mem_append_right _ (List.mem_append_left _ (List.mem_map.mpr ⟨x, hx, rfl⟩)))))
  · obtain ⟨q, hq, rfl⟩ := List.mem_map.mp hm
    obtain ⟨hc, d, e1, e2, e3⟩ := O.cms q hq
    have g1 := He.meth_ok (x := q.cls) (m := q.name) (mem _ (by
      unfold Sy.fa; exact List.mem_append_right _ (List.mem_append_right _ (List.mem_append_right _ (List.mem_append_right _ (List.mem_append_right _ (List.mem_append_right _ (List.mem_append_left _ (List.mem_map.mpr ⟨q, hq, rfl⟩)))))))))
    have ea : y.ad K (mkey q.cls q.name) = He.ma K (He.ga K q.cls) q.name := by rw [Sy.ad_of e1, e2]; rfl
    obtain ⟨gf, k⟩ := e3 K _ _ (F _ _ e1)
    refine ⟨cC _ hc, ?_, d, gf, e1, k⟩
    show Meth K _ _ (y.ad K (mkey q.cls q.name))
    rw [ea]; exact g1
  · obtain ⟨q, hq, rfl⟩ := List.mem_map.mp hm
    obtain ⟨hc, d, e1, e2, e3⟩ := O.cks q hq
    have g1 := He.mkr_ok (x := q.cls) (mem _ (by
      unfold Sy.fa; exact List.mem_append_right _ (List.mem_append_right _ (List.mem_append_right _ (List.mem_append_right _ (List.mem_append_right _ (List.mem_append_right _ (List.mem_append_right _ (List.mem_append_left _ (List.mem_map.mpr ⟨q, hq, rfl⟩))))))))))
    have ea : y.ad K (mkey q.cls "__init__") = He.ma K (He.ga K q.cls) "__init__" := by rw [Sy.ad_of e1, e2]; rfl
    obtain ⟨gf, k⟩ := e3 K _ _ (F _ _ e1)
    refine ⟨cglo _ hc, ?_, d, gf, e1, k⟩
    show Mk K _ (y.ad K (mkey q.cls "__init__"))
    rw [ea]; exact g1
  · obtain ⟨q, hq, rfl⟩ := List.mem_map.mp hp
    obtain ⟨c', hc', rfl⟩ := List.mem_map.mp hC
    exact ⟨cC _ (O.ats q hq c' hc'), He.noat_ok (mem _ (by
      unfold Sy.fa; exact List.mem_append_right _ (List.mem_append_right _ (List.mem_append_right _ (List.mem_append_right _ (List.mem_append_right _ (List.mem_append_right _ (List.mem_append_right _ (List.mem_append_right _ (List.mem_flatMap.mpr ⟨q, hq, List.mem_map.mpr ⟨c', hc', rfl⟩⟩)))))))))
      )⟩
  · obtain ⟨q, hq, rfl⟩ := List.mem_map.mp hp
    exact List.all_eq_true.mp (Bool.and_eq_true_iff.mp he).1 q hq
  · obtain ⟨q, hq, rfl⟩ := List.mem_map.mp hp
    exact cC q (O.nes q hq)
  · obtain ⟨q, hq, rfl⟩ := List.mem_map.mp hx
    have B := List.all_eq_true.mp exs.2.1 q hq
    unfold yxB at B
    simp only [Bool.and_eq_true, decide_eq_true_eq] at B
    obtain ⟨b1, b2, b3, b4, b5, b6, b7, b8⟩ := B
    have Y := O.xcs q hq
    obtain ⟨fd, F⟩ := c.defs (d := q.df.d) (List.mem_append_right _ (List.mem_map.mpr ⟨q, hq, rfl⟩))
    have F' : FunD K q.df.name q.df.qual (defArgs q.df.st) (defBody q.df.st) (defScope q.df.st) [] (q.df.d.kws K) (He.fAd K q.df.at_) fd := by
      have : q.df.d.dvs K = [] := by unfold He.DefD.dvs Df.d; rw [Y.dfl]; rfl
      have F0 : FunD K q.df.name q.df.qual (defArgs q.df.st) (defBody q.df.st) (defScope q.df.st) (q.df.d.dvs K) (q.df.d.kws K) (He.fAd K q.df.at_) fd := F
      rw [this] at F0; exact F0
    have S : FnScope ["self", q.px] ["self", q.px] (defScope q.df.st) := by
      have z := scB_ok Y.sc
      rw [Y.N, Y.P] at z
      exact z
    refine ⟨q.b, _, fd, q.px, He.glo_ok X G b1, xcB_ok b3, xfB_ok b4, b6, b7, b8, fun P w base => xinit_ok F' S Y.bd Y.pl Y.pb Y.gl (He.glo_ok X G b2) (xpB_ok b5), ?_⟩
    intro s us _ hl
    have z := F'.bindsA (ps := q.df.P) Y.bind s us (by rw [Y.P]; simpa using hl)
    rw [Y.P] at z
    rw [List.append_nil]
    exact z
  · have B := List.all_eq_true.mp exs.2.2.2 p hp
    unfold tpB at B
    obtain ⟨b1, b3⟩ := Bool.and_eq_true_iff.mp B
    obtain ⟨b4, b2⟩ := Bool.and_eq_true_iff.mp b3
    refine ⟨_, He.glo_ok X G b1, ?_, b4⟩
    split at b2
    · rename_i xs e
      show kobj K _ = _
      rw [e, of_decide_eq_true b2]
    · cases b2
  · obtain ⟨hn, d, e1, hh, e2, e3⟩ := O.hcs c hc
    obtain ⟨c', hc', ec⟩ := List.mem_map.mp hn
    have g1 := He.glo_ok X G (x := c'.name) (mem _ (by unfold Sy.fa; exact List.mem_append_left _ (List.mem_map.mpr ⟨c', hc', rfl⟩)))
    have ea : y.ad K c.1 = He.ga K c.2.name := by rw [Sy.ad_of e1, e2]; rfl
    obtain ⟨gf, k⟩ := e3 K _ _ (F _ _ e1)
    refine ⟨by rw [ea, ← ec]; exact g1, (F _ _ e1).kp, d, gf, e1, hh, k⟩
  · obtain ⟨x, hx, rfl⟩ := List.mem_map.mp (show p ∈ y.lams.map (fun x => (x, lamOf y K x)) from hp)
    have B := List.all_eq_true.mp (Bool.and_eq_true_iff.mp he').1 x hx
    unfold lamB at B
    simp only [Bool.and_eq_true] at B
    obtain ⟨b1, b2, b3⟩ := B
    refine ⟨fun d e => ?_, ?_, fun r hr => ?_⟩
    · show (lamOf y K x).q = _
      unfold lamOf
      simp only [e]
    · show codeAt K (y.ad K x) = .ref (addrOf (codeAt K (y.ad K x)))
      split at b1
      · rename_i c e
        rw [e]; rfl
      · cases b1
    · obtain ⟨z, hz, rfl⟩ := List.mem_map.mp (show r ∈ y.lams.map (fun x => (x, lamOf y K x)) from hr)
      intro e
      have z3 := List.all_eq_true.mp b3 z hz
      have e' : (lamOf y K z).P = (lamOf y K x).P := e
      rw [e'] at z3
      simpa using z3
end
theorem chB_ok {K : PySem.W.Frag} {h : Heap} {c P : Addr} (X : K.In h) (e : chB K c P = true) : PySem.W.CodeHd h c P := by
  unfold chB at e
  split at e
  · rename_i o ho
    split at e
    · rename_i t vs hc hd
      simp only [Bool.and_eq_true] at e
      obtain ⟨e1, e2, e3, e4, e5, e6, e7⟩ := e
      split at e2
      · rename_i p hp
        split at e3
        · rename_i f1 t1 h1
          split at e4
          · rename_i f2 t2 h2
            split at e5
            · rename_i f3 h3
              split at e6
              · rename_i f4 t4 h4
                have ep : p = P := beq_iff_eq.mp e2
                subst ep
                have et : t = "code" := beq_iff_eq.mp e1
                exact ⟨o, vs, f1, t1, f2, t2, f3, f4, t4, X _ _ ho, by rw [hc, et], hd, hp, by rw [Array.getD_eq_getD_getElem?, hp]; rfl, h1, h2, h3, h4, by simpa using e7⟩
              · cases e6
            · cases e5
          · cases e4
        · cases e3
      · cases e2
    · cases e
  · cases e

/-- what a law may ask of the written part: of an own class .. -/
def clsB (K : PySem.W.Frag) (C : Addr) : Bool := PySem.W.plainGet K C Str.empty && (PySem.W.hasDictIn K C && (PySem.W.plainOver K C && decide (PySem.W.findIn K (.ref C) "__setattr__" = some (some (.builtin "object.__setattr__")))))
theorem clsB_ok {K : PySem.W.Frag} {C : Addr} (h : clsB K C = true) : Cls K C := by
  unfold clsB at h
  simp only [Bool.and_eq_true, decide_eq_true_eq] at h
  obtain ⟨h1, h2, h3, h4⟩ := h
  exact ⟨h1, h2, h3, h4⟩
def kindsS : List String := ["NoneType", "int", "str", "list", "dict"]
def kindsI : List String := ["bool", "int", "str", "list", "tuple", "dict"]
def ownX (K : PySem.W.Frag) (C : Addr) : Bool := clsB K C && (ownB K C && ((kindsS.all fun t => decide (PySem.W.subIn K (.ref C) (.type t) = some false)) && kindsI.all fun t => decide (PySem.W.kitOne K (.ref C) (.type t) = some false)))
/-- .. of two own classes apart .. -/
def apartX (K : PySem.W.Frag) (C D : Addr) : Bool := decide (PySem.W.kitOne K (.ref C) (.ref D) = some false)
/-- .. of an own exception class: what the clauses and isinstance tell of it -/
def xcX (K : PySem.W.Frag) (r : Addr) (cs is : List (Addr × Bool)) : Bool := (cs.all fun p => decide (PySem.W.exmOne K (.ref r) (.ref p.1) = some p.2)) && ((is.all fun p => decide (PySem.W.kitOne K (.ref r) (.ref p.1) = some p.2)) && excB K r)
theorem xcX_ok {K : PySem.W.Frag} {r : Addr} {cs is : List (Addr × Bool)} (h : xcX K r cs is = true) : (∀ p ∈ cs, PySem.W.exmOne K (.ref r) (.ref p.1) = some p.2) ∧ (∀ p ∈ is, PySem.W.kitOne K (.ref r) (.ref p.1) = some p.2) ∧ excB K r = true := by
  unfold xcX at h
  simp only [Bool.and_eq_true, List.all_eq_true, decide_eq_true_eq] at h
  exact h
/-- an own instance is of no built-in kind -/
theorem isi_own {K : PySem.W.Frag} {C p dx : Addr} {fs : List (Str × V)} {T : String} {H : Hp} {Q : VK} (hx : ownX K C = true) (hp : H p = some (.ins C dx fs)) (hT : T ∈ kindsI) (h : Q (.bl false) H) : bIsi K [.ref p, .ty T] H Q := by
  unfold ownX at hx
  simp only [Bool.and_eq_true, List.all_eq_true, decide_eq_true_eq] at hx
  obtain ⟨h1, h2, h3, h4⟩ := hx
  obtain ⟨k1, k2, k3, k4, k5, k6, k7⟩ := ownB_ok h2
  have tn : tyN K H (.ref p) = none := by simp only [tyN, look, hp]
  unfold bIsi
  simp only [tn]
  exact ⟨_, _, _, _, false, rfl, .ty _, .base (.ins hp (clsB_ok h1) k2 k3 k4 k5), h4 T hT, h⟩
/-! ### the law's end -/
def isLst (o : Obj) : Bool := match o.cls with
  | .type c => c == "list"
  | _ => false
/-- a table of code objects, empty -/
def isTab (o : Obj) : Bool := match o.cls, o.data with
  | .none, .fields vs => vs.size == 0
  | _, _ => false
/-- .. and no more -/
def tabE (o : Option Obj) : Bool := match o with
  | some ⟨.none, none, .fields vs, sl⟩ => vs.size == 0 && sl.size == 0
  | _ => false
theorem tabE_ok {o : Option Obj} (h : tabE o = true) : o = some { cls := .none, data := .fields #[] } := by
  unfold tabE at h
  split at h
  · rename_i vs sl
    rw [Bool.and_eq_true] at h
    have e1 : vs = #[] := Array.eq_empty_of_size_eq_zero (by simpa using h.1)
    have e2 : sl = #[] := Array.eq_empty_of_size_eq_zero (by simpa using h.2)
    rw [e1, e2]
  · cases h
/-- sys.modules and the machine's own table, where they stand -/
def sysE (g : Addr → Option Obj) : PySem.W.Frag := [sysModules, cStatics].filterMap fun a => (g a).map fun o => (a, o)
/-- the written part without its lists and empty tables (so the script is never an object of it), and sys.modules -/
def frZ (g : Addr → Option Obj) (as : List Addr) : PySem.W.Frag := (He.frT g as ++ sysE g).filter fun q => !isLst q.2 && !isTab q.2
theorem frZ_mem {g : Addr → Option Obj} {as : List Addr} {a : Addr} {o : Obj} (h : (frZ g as).lookup a = some o) : g a = some o ∧ isLst o = false ∧ isTab o = false := by
  have m := List.mem_filter.mp (He.lookup_mem h)
  refine ⟨?_, by simpa using m.2⟩
  rcases List.mem_append.mp m.1 with z | z
  · exact He.frG_mem (List.mem_filter.mp z).1
  · unfold sysE at z
    obtain ⟨b, _, e⟩ := List.mem_filterMap.mp z
    cases hb : g b with
    | none => rw [hb] at e; cases e
    | some u => rw [hb] at e; cases e; exact hb
def obsZ (n : Nat) (y : Sy) (g : Addr → Option Obj) : He.AlD × Bool := (He.obsD y.fa y.fn (frZ g (He.asD g n)), y.exB (frZ g (He.asD g n)) && y.lams.all fun x => tabE (g (lamOf y (frZ g (He.asD g n)) x).P))
def hkY (y : Sy) : PySem.W.Hook where
  α := He.AlD × Bool
  obs := fun s => obsZ 5 y s.heap.get?
  val := fun _ => (He.valD y.fn, true)
  says := fun _ h => ∃ K : PySem.W.Frag, K.In h ∧ He.SaysD y.fa y.fn K ∧ y.exB K = true ∧ (∀ a o, K.lookup a = some o → isLst o = false ∧ isTab o = false) ∧ ∀ x ∈ y.lams, h.get? (lamOf y K x).P = some { cls := .none, data := .fields #[] }
  of := fun _ s e => ⟨_, fun _ _ e => (frZ_mem e).1, congrArg (fun z : He.AlD × Bool => z.1) e, (Bool.and_eq_true_iff.mp (congrArg (fun z : He.AlD × Bool => z.2) e)).1, fun _ _ e => (frZ_mem e).2, fun x hx => tabE_ok (List.all_eq_true.mp (Bool.and_eq_true_iff.mp (congrArg (fun z : He.AlD × Bool => z.2) e)).2 x hx)⟩
  keeps := fun _ _ _ ⟨K, hK, c1, c2, c3, c4⟩ k => ⟨K, PySem.W.Frag.In.keeps hK k, c1, c2, c3, fun x hx => k _ _ (c4 x hx)⟩
def obY (y : Sy) (s : PySem.W.SharedT) : He.AlD × Bool := obsZ 5 y (HandSHeadRun.getT s)
theorem obY_eq (y : Sy) (s : PySem.W.SharedT) : obY y s = (hkY y).obs s.abs := by
  have e : HandSHeadRun.getT s = s.abs.heap.get? := funext (HandSHeadRun.getT_eq s)
  show obsZ 5 y (HandSHeadRun.getT s) = obsZ 5 y s.abs.heap.get?
  rw [e]
/-- nothing but a script and empty tables -/
def OnlyT (H : Hp) : Prop := ∀ b, H b = none ∨ H b = some (.tbl #[]) ∨ ∃ o xs, H b = some (.frz o (.lst xs))
/-- the tables of the defs that make lambdas -/
abbrev Sy.Ts (y : Sy) (K : PySem.W.Frag) : List (Addr × Str) := (y.tb K).lams.map fun x => (x.2.P, x.2.q)
/-- the promise of law, n calls deep, at scripts of at most 63 numbers -/
def LawY (y : Sy) (m n : Nat) : Prop := ∀ (K : PySem.W.Frag), y.ex K = true → ∀ (H : Hp) (a : Addr) (ns : List Int), ns.length ≤ 63 → OnlyT H → LamX.Tabs (y.Ts K) H → (∃ o, H a = some (.frz o (.lst (ns.map V.int)))) →
  spAt (y.tb K) m y.ds n "law" none [.ref a] H (fun v _ => v = .bl true) fun _ _ _ => False
theorem abs_ints : ∀ {us : List Value} {ns : List Int}, Vals (ns.map V.int) us → absVs us = some (ns.map V.int)
  | [], ns, r => by
    cases ns with
    | nil => rfl
    | cons n ns => cases r
  | u :: us, ns, r => by
    cases ns with
    | nil => cases r
    | cons n ns =>
      cases r with
      | cons h t =>
        obtain ⟨tk, rfl⟩ := h
        unfold absVs
        rw [abs_ints t]
        rfl
/-- the law's call, with tables of code objects -/
theorem lawW_callT {P : Program} {w : World} {K : PySem.W.Frag} {mg mb : Str → Option Value} {CX : CXT} {k : Nat} {fa a : Addr} {cs : List (Addr × Addr)} {fd : FuncData} {x : Str} {sp : Sp} {s₁ : Shared} {vs : List Value} {ns : List Int}
    (KX : K.In s₁.heap) (hns : s₁.heap.Ns mainGlobals mg) (hb : s₁.heap.Ns builtinsNs mb) (hbb : ∀ x : Str, x ≠ "__name__" → mb x = bootBuiltins x) (hlim : s₁.heap.NoLimit) (hg : s₁.gens = #[])
    (hT : ∀ p ∈ cs, s₁.heap.get? p.2 = some { cls := .none, data := .fields #[] }) (nT : ∀ p ∈ cs, K.lookup p.2 = none) (C : ∀ p ∈ cs, PySem.W.CodeHd s₁.heap p.1 p.2)
    (hbm : ∃ (bm : Addr) (ob : Obj), mg "__builtins__" = some (.ref bm) ∧ bm ≠ builtinsNs ∧ s₁.heap.get? bm = some ob ∧ ob.cls = .type "module" ∧ ob.dict = some builtinsNs ∧ ob.data = .plain)
    (ha : s₁.heap.get? a = some { cls := .type "list", data := .seq vs.toArray }) (hi : IntsAre vs ns) (hl : ns.length ≤ sizeLine) (hr : Room k callerA) (hk : K.lookup a = none)
    (F : ∀ base : Heap, K.In base → base.Ns mainGlobals mg → (∀ p ∈ cs, LamX.TabB base mg p.1 p.2) → FnW P w K mg base CX k fa fd [x] sp) (hbind : ∀ (s : Shared) (u : Value), BindsTo s fd ⟨[u], []⟩ [(x, u)])
    (hsp : ∀ H : Hp, (∀ p ∈ cs, H p.2 = some (.tbl #[])) → OnlyT H → (∃ o, H a = some (.frz o (.lst (ns.map V.int)))) → sp [.ref a] H (fun v _ => v = .bl true) fun _ _ _ => False)
    (hCX : ∀ H e s', CX [] H s₁ (fun _ _ _ => False) e s' → False) :
    codeAny (model P w) callerA (.call (.ref fa) ⟨[.ref a], []⟩) (fun r s' => r = .ok (.ret (.bool true)) ∧ OldK s₁.heap s'.heap ∧ s'.os = s₁.os ∧ AllBare s'.gens) s₁ := by
  have rv := vals_ints hi
  have isT : ∀ b : Addr, b ∈ cs.map (·.2) → s₁.heap.get? b = some { cls := .none, data := .fields #[] } := fun b hb => by
    obtain ⟨p, hp, e⟩ := List.mem_map.mp hb
    rw [← e]
    exact hT p hp
  have aT : a ∉ cs.map (·.2) := fun z => by
    have q := isT a z
    rw [ha] at q
    have z' : Data.seq vs.toArray _ = Data.fields #[] := congrArg Obj.data (Option.some.inj q)
    cases z'
  have memT : ∀ p ∈ cs, p.2 ∈ cs.map (·.2) := fun p hp => List.mem_map.mpr ⟨p, hp, rfl⟩
  let H : Hp := fun b => if b = a then some (.frz { cls := .type "list", data := .seq vs.toArray } (.lst (ns.map V.int))) else if b ∈ cs.map (·.2) then some (.tbl #[]) else none
  have Ha : H a = some (.frz { cls := .type "list", data := .seq vs.toArray } (.lst (ns.map V.int))) := if_pos rfl
  have HT : ∀ b, b ∈ cs.map (·.2) → H b = some (.tbl #[]) := fun b hb => (if_neg (fun (z : b = a) => aT (by rw [← z]; exact hb))).trans (if_pos hb)
  have Hn : ∀ b, b ≠ a → b ∉ cs.map (·.2) → H b = none := fun b h1 h2 => (if_neg h1).trans (if_neg h2)
  have hH : ∀ p ∈ cs, H p.2 = some (.tbl #[]) := fun p hp => HT _ (memT p hp)
  have hO : OnlyT H := fun b => by
    by_cases z : b = a
    · subst z; exact .inr (.inr ⟨_, _, Ha⟩)
    · by_cases z2 : b ∈ cs.map (·.2)
      · exact .inr (.inl (HT b z2))
      · exact .inl (Hn b z z2)
  have hok : HOk P w H s₁.heap := fun b u z => by
    by_cases hb : b = a
    · subst hb
      rw [Ha] at z
      cases z
      exact ⟨ha, by rw [List.length_map]; exact hl, vs, _, rv, ha⟩
    · by_cases hb2 : b ∈ cs.map (·.2)
      · rw [HT b hb2] at z
        cases z
        exact isT b hb2
      · rw [Hn b hb hb2] at z
        cases z
  have hA : ∀ b, H b ≠ none → b = a ∨ b ∈ cs.map (·.2) := fun b z => by
    by_cases hb : b = a
    · exact .inl hb
    · by_cases hb2 : b ∈ cs.map (·.2)
      · exact .inr hb2
      · exact absurd (Hn b hb hb2) z
  have base_of : ∀ {b : Addr} {o : Obj}, s₁.heap.get? b = some o → H b = none → (hidT s₁.heap H).get? b = some o := fun e n => hidT_get e n
  have noD : ∀ {b : Addr} {o : Obj}, s₁.heap.get? b = some o → (∀ vs n, o.data ≠ .seq vs n) → o.data ≠ .fields #[] → H b = none := fun {b o} e h1 h2 => by
    cases q : H b with
    | none => rfl
    | some u =>
      rcases hA b (by rw [q]; simp) with e' | e'
      · rw [e', ha] at e
        cases e
        exact (h1 _ _ rfl).elim
      · rw [isT b e'] at e
        cases e
        exact (h2 rfl).elim
  have noA : ∀ {b : Addr} {o : Obj} {es : Array DictEntry} {ep : Nat}, s₁.heap.get? b = some o → o.data = .dict es ep → H b = none := fun {b o es ep} e d => by
    refine noD e (fun vs n z => ?_) fun z => ?_
    · rw [d] at z
      cases z
    · rw [d] at z
      cases z
  have nsK : ∀ {b : Addr} {m : Str → Option Value}, s₁.heap.Ns b m → (hidT s₁.heap H).Ns b m := fun {b m} ⟨o, es, ep, e, d, r⟩ => ⟨o, es, ep, base_of e (noA e d), d, r⟩
  have hKb : K.In (hidT s₁.heap H) := fun b o e => base_of (KX b o e) (by
    cases q : H b with
    | none => rfl
    | some u =>
      rcases hA b (by rw [q]; simp) with e' | e'
      · rw [e', hk] at e
        cases e
      · obtain ⟨p, hp, ep⟩ := List.mem_map.mp e'
        rw [← ep, nT p hp] at e
        cases e)
  have hM : L2.Mod K mg (hidT s₁.heap H) := ⟨hKb, nsK hns, ⟨mb, nsK hb, hbb⟩, let ⟨mc, h1, h2⟩ := hlim; ⟨mc, nsK h1, h2⟩⟩
  have TB : ∀ p ∈ cs, LamX.TabB (hidT s₁.heap H) mg p.1 p.2 := fun p hp => by
    have hTp := hT p hp
    refine ⟨?_, ?_, fun z => ?_⟩
    · obtain ⟨o, us, file, tf, flags, tg, inF, text, tt, e1, r1, r2, r3, r4, r5, r6, r7, r8, hne⟩ := C p hp
      refine ⟨o, us, file, tf, flags, tg, inF, text, tt, base_of e1 (noD e1 (fun vs n z => ?_) fun z => ?_), r1, r2, r3, r4, r5, r6, r7, r8, hne⟩
      · rw [r2] at z
        cases z
      · rw [r2] at z
        cases z
        simp at r3
    · obtain ⟨bm, ob, b1, b2, b3, b4, b5, b6⟩ := hbm
      have nG : bm ≠ mainGlobals := fun q => by
        obtain ⟨o, es, ep, e, hd, _⟩ := hns
        rw [q, e] at b3
        cases b3
        rw [hd] at b6
        cases b6
      have nP : bm ≠ p.2 := fun q => by
        rw [q, hTp] at b3
        cases b3
        cases b6
      refine ⟨bm, ob, b1, b2, nG, nP, base_of b3 (noD b3 (fun vs n z => ?_) fun z => ?_), b4, b5, b6⟩
      · rw [b6] at z
        cases z
      · rw [b6] at z
        cases z
    · obtain ⟨o, es, ep, e, hd, _⟩ := hns
      rw [z, hTp] at e
      cases e
      cases hd
  have e0 : Env0 P w K mg (hidT s₁.heap H) callerA [] s₁ H := ⟨rfl, hM, fun b o e => of_hidT e, Nat.le_of_eq (hidT_size _ _), trivial, fun b hb => absurd (show b ∈ ([] : List Addr) from hb) (by simp), hok, .of_eq hg⟩
  refine codeAny_mono ((F _ hKb (nsK hns) TB).run callerA [] s₁ H ⟨[.ref a], []⟩ [.ref a] [.ref a] _ _ hr rfl e0 (hbind s₁ (.ref a)) (.cons rfl .nil) (hsp H hH hO ⟨_, Ha⟩)) fun r s' h => ?_
  cases r with
  | error e => exact (hCX H e s' h).elim
  | ok fl =>
    cases fl with
    | next => exact False.elim h
    | brk => exact False.elim h
    | cont => exact False.elim h
    | ret u =>
      obtain ⟨v, H', os, bare, un, hok', r', q⟩ := h
      have q' : v = .bl true := q
      subst q'
      obtain rfl : u = Value.bool true := r'
      have key : ∀ b o, b ∉ cs.map (·.2) → s₁.heap.get? b = some o → s'.heap.get? b = some o := fun b o nb e => by
        cases q : H b with
        | none => exact un.keep b o e q (by intro z; exact absurd (show b ∈ ([] : List Addr) from z) (by simp)) (by simp)
        | some u =>
          rcases hA b (by rw [q]; simp) with z | z
          · subst z
            have z2 := un.frzs _ _ _ Ha
            obtain ⟨e2, _⟩ := hok' _ _ z2
            rw [ha] at e
            cases e
            exact e2
          · exact absurd z nb
      have grown : ∀ p ∈ cs, ∃ more : Array Value, s'.heap.get? p.2 = some { cls := .none, data := .fields more } := fun p hp => by
        obtain ⟨more, z⟩ := un.tbls p.2 #[] (hH p hp)
        exact ⟨_, hok' p.2 _ z⟩
      refine ⟨rfl, ⟨fun b o e => ?_, fun b o e => ?_⟩, os, bare⟩
      · by_cases hb : b ∈ cs.map (·.2)
        · obtain ⟨p, hp, ep⟩ := List.mem_map.mp hb
          obtain ⟨more, hm⟩ := grown p hp
          rw [← ep] at e ⊢
          rw [hT p hp] at e
          cases e
          exact .inr (.inl ⟨((C p hp).tab (hT p hp)).isCodeTable, rfl, #[], more, rfl, by rw [Array.empty_append]; exact hm⟩)
        · exact .inl (key b o hb e)
      · by_cases hb : b ∈ cs.map (·.2)
        · obtain ⟨p, hp, ep⟩ := List.mem_map.mp hb
          obtain ⟨more, hm⟩ := grown p hp
          rw [← ep]
          exact ⟨_, hm⟩
        · exact ⟨o, key b o hb e⟩
theorem walkY {l : PySem.W.OpenLaw} {q : Program} {loose : List Str} {XP : (Str → Option Value) → Heap → Prop} {dr : DefRec} (y : Sy) (m n : Nat) (dl : Df) (O : SyOk y) (nd : (y.ds.map (·.1)).Nodup) (hl : y.ds.lookup ("law" : Str) = some dl) (hP : dl.P = [("script" : Str)]) (hdl : dl.dfl = [])
    (hat : dl.at_ = (("law" : Str), none)) (hcl : ∃ c ∈ y.cps, c.name = ("law" : Str))
    (hb : ∀ (kV doc pm : Value) (an : Option Addr) (cdv ct : Value) (us : List Value), us.length = dl.P.length → bindArgs (PySem.W.fnOf dl.name dl.qual (defArgs dl.st) (defBody dl.st) (defScope dl.st) .none kV doc pm an cdv ct) ⟨us, []⟩ = pure (dl.P.zip us))
    (hn : l.most = some 63) (hdf : dr.params.defaults = []) (hnm : dr.name = ("law" : Str)) (hr : Room (6 * n) callerA) (law : LawY y m n) :
    PySem.W.WalkO q loose XP (hkY y).says l.row.toRowW dr [] (fun f vs => PySem.call f vs) := by
  refine Att.attach_call hn hdf fun w s₀ s₁ mg mb fa o pm cd doc a vs ns G Y ho hd hcd hmg hobj hints hlen hg => ?_
  obtain ⟨K, KX, c1, c2, c3, c4⟩ := Y
  rw [hnm] at hmg
  obtain ⟨fd, T, F⟩ := sy_tok O KX G.T.g c1 nd c2
  have Fl := F ("law", dl) (PySem.mem_of_lookup hl)
  have ea : y.ad K "law" = fa := by
    obtain ⟨cc, hc, e⟩ := hcl
    have e1 := (T.cps cc hc).1
    rw [e, hmg] at e1
    cases e1; rfl
  have Fl' : FunD K dl.name dl.qual (defArgs dl.st) (defBody dl.st) (defScope dl.st) [] (dl.d.kws K) (y.ad K "law") (fd "law") := by
    have : dl.d.dvs K = [] := by unfold He.DefD.dvs Df.d; rw [hdl]; rfl
    rw [this] at Fl; exact Fl
  have memP : ∀ p : Addr × Addr, p ∈ y.lams.map (fun x => ((lamOf y K x).c, (lamOf y K x).P)) → ∃ x ∈ y.lams, p = ((lamOf y K x).c, (lamOf y K x).P) := fun p hp => by
    obtain ⟨x, hx, e⟩ := List.mem_map.mp hp
    exact ⟨x, hx, e.symm⟩
  have hF : ∀ base : Heap, K.In base → base.Ns mainGlobals mg → (∀ p ∈ y.lams.map (fun x => ((lamOf y K x).c, (lamOf y K x).P)), LamX.TabB base mg p.1 p.2) → FnW l.prog w K mg base (L2N.CX l.prog w) (6 * n) fa (fd "law") ["script"] (spAt (y.tb K) m y.ds n "law" none) := fun base _ _ TB => by
    have z := spAt_ok (P := l.prog) (w := w) (base := base) (m := m) T (fun p hp => by
      obtain ⟨x, hx, rfl⟩ := List.mem_map.mp (show p ∈ y.lams.map (fun x => (x, lamOf y K x)) from hp)
      exact TB _ (List.mem_map.mpr ⟨x, hx, rfl⟩)) n "law" dl hl
    rw [ea, hP] at z
    exact z
  have hKa : K.lookup a = none := by
    cases q : K.lookup a with
    | none => rfl
    | some o =>
      have z := KX a o q
      rw [hobj] at z
      cases z
      have := (c3 a _ q).1
      unfold isLst at this
      cases this
  refine lawW_callT (CX := L2N.CX l.prog w) (cs := y.lams.map fun x => ((lamOf y K x).c, (lamOf y K x).P)) KX G.T.g G.T.b G.T.builtins G.T.nolimit hg (fun p hp => ?_) (fun p hp => ?_) (fun p hp => ?_) G.T.bmain hobj hints (Nat.le_trans hlen (by decide)) hr hKa hF (fun s u => ?_) (fun H hH hO hS => law K (Bool.and_eq_true_iff.mp (Bool.and_eq_true_iff.mp (Bool.and_eq_true_iff.mp (Bool.and_eq_true_iff.mp c2).2).2).1).1 H a ns hlen hO ?_ hS) fun H e s' z => ?_
  · obtain ⟨x, hx, rfl⟩ := memP p hp
    exact c4 x hx
  · obtain ⟨x, hx, rfl⟩ := memP p hp
    cases q : K.lookup (lamOf y K x).P with
    | none => rfl
    | some o =>
      have z := (KX _ _ q).symm.trans (c4 x hx)
      cases z
      have := (c3 _ _ q).2
      unfold isTab at this
      cases this
  · obtain ⟨x, hx, rfl⟩ := memP p hp
    have B := List.all_eq_true.mp (Bool.and_eq_true_iff.mp c2).1 x hx
    unfold lamB at B
    simp only [Bool.and_eq_true] at B
    exact chB_ok KX B.2.1
  · have b := Fl'.bindsA (ps := dl.P) hb s [u] (by rw [hP]; rfl)
    rw [hP] at b
    exact b
  · intro p hp
    obtain ⟨x', hx', rfl⟩ := List.mem_map.mp hp
    obtain ⟨x, hx, rfl⟩ := List.mem_map.mp (show x' ∈ y.lams.map (fun x => (x, lamOf y K x)) from hx')
    exact LamX.TabS.nil (hH _ (List.mem_map.mpr ⟨x, hx, rfl⟩))
  · obtain ⟨_, _, _, _, _, _, _, _, _, _, _, _, z⟩ := z
    exact z
end WR

set_option Elab.async false
set_option linter.all false
set_option maxRecDepth 100000
set_option maxHeartbeats 4000000
namespace WR
open PySem PySem.Spec PyProof.Rows L2
/-! ## shorthands of the printed readings -/
def mf (g : G) (m : Str) (n : Nat) (ks : List Str) : List MtI := g.mts.filter fun i => decide (i.name = m) && decide (i.n = n) && decide (i.ks = ks)
def bf (K : PySem.W.Frag) (m : Str) : List BM := (bms K).filter fun b => decide (b.name = m)
def mC (g : G) (m : Str) (n nk : Nat) (ks : List Str) (ta : TE) (t tk : TA) (W : WX) : TE := cMeth g.K m n nk (mf g m n ks) (bf g.K m) ta t tk W
/-- a method of a built-in type alone -/
def mCB (K : PySem.W.Frag) (m : Str) (n : Nat) (ta : TE) (t : TA) (W : WX) : TE := cMeth K m n 0 [] (bf K m) ta t tNil W
def orL (t : TS) : TS := fun D σ H => t D σ H ∨ tLock t D σ H
def joinT (ts : List TE) : TE := fun σ H Q => cJs ts Str.empty σ H fun out H1 => Q (.str out) H1
/-- raise C(e) -/
def tRs (W : WX) (C : Addr) (f : Str) (te : TE) : TS := fun _ σ H => tMkX C f te σ H fun cls d H' => W cls d σ H'
/-- try: tb, the clauses l -/
def tTryW (K : PySem.W.Frag) (W : WX) (l : List ClR) (tb : WX → TS) : TS := fun D σ H => tb (wCl K W D l) D σ H
/-- a method of an own class, one candidate -/
theorem mC_own {g : G} {m : Str} {n nk : Nat} {ks : List Str} {ta : TE} {t tk : TA} {W : WX} {c : MtI} {σ : St} {H : Hp} {Q : VK} (hm : mf g m n ks = [c])
    (h : ta σ H fun x H1 => ∃ p dx fs, x = .ref p ∧ H1 p = some (.ins c.cls dx fs) ∧ fs.lookup m = none ∧ t σ H1 fun vs H2 => tk σ H2 fun zs H3 => vs.length = n ∧ zs.length = nk ∧ c.sp (.ref p :: c.arr vs zs) H3 Q (fun cls d H' => W cls d σ H'))
    (mono : ∀ P P' : V → Hp → Prop, (∀ x H, P x H → P' x H) → ta σ H P → ta σ H P') : mC g m n nk ks ta t tk W σ H Q := by
  unfold mC cMeth
  rw [hm]
  refine mono _ _ (fun x H1 q => ?_) h
  obtain ⟨p, dx, fs, rfl, e, l, q⟩ := q
  simp only [insOf, e, l, List.mem_singleton, exists_eq_left, true_and]
  exact q
/-- two candidates, the first or the second -/
theorem mC_own2 {g : G} {m : Str} {n nk : Nat} {ks : List Str} {ta : TE} {t tk : TA} {W : WX} {c : MtI} {l : List MtI} {σ : St} {H : Hp} {Q : VK} (hm : mf g m n ks = l) (hc : c ∈ l)
    (h : ta σ H fun x H1 => ∃ p dx fs, x = .ref p ∧ H1 p = some (.ins c.cls dx fs) ∧ fs.lookup m = none ∧ t σ H1 fun vs H2 => tk σ H2 fun zs H3 => vs.length = n ∧ zs.length = nk ∧ c.sp (.ref p :: c.arr vs zs) H3 Q (fun cls d H' => W cls d σ H'))
    (mono : ∀ P P' : V → Hp → Prop, (∀ x H, P x H → P' x H) → ta σ H P → ta σ H P') : mC g m n nk ks ta t tk W σ H Q := by
  unfold mC cMeth
  rw [hm]
  refine mono _ _ (fun x H1 q => ?_) h
  obtain ⟨p, dx, fs, rfl, e, l, q⟩ := q
  simp only [insOf, e, l]
  exact ⟨trivial, c, hc, rfl, q⟩
theorem mC_ownL {g : G} {m : Str} {n nk : Nat} {ks : List Str} {ta : TE} {t tk : TA} {W : WX} {c c' : MtI} {σ : St} {H : Hp} {Q : VK} (hm : mf g m n ks = [c, c'])
    (h : ta σ H fun x H1 => ∃ p dx fs, x = .ref p ∧ H1 p = some (.ins c.cls dx fs) ∧ fs.lookup m = none ∧ t σ H1 fun vs H2 => tk σ H2 fun zs H3 => vs.length = n ∧ zs.length = nk ∧ c.sp (.ref p :: c.arr vs zs) H3 Q (fun cls d H' => W cls d σ H'))
    (mono : ∀ P P' : V → Hp → Prop, (∀ x H, P x H → P' x H) → ta σ H P → ta σ H P') : mC g m n nk ks ta t tk W σ H Q := mC_own2 hm List.mem_cons_self h mono
theorem mC_ownR {g : G} {m : Str} {n nk : Nat} {ks : List Str} {ta : TE} {t tk : TA} {W : WX} {c c' : MtI} {σ : St} {H : Hp} {Q : VK} (hm : mf g m n ks = [c', c])
    (h : ta σ H fun x H1 => ∃ p dx fs, x = .ref p ∧ H1 p = some (.ins c.cls dx fs) ∧ fs.lookup m = none ∧ t σ H1 fun vs H2 => tk σ H2 fun zs H3 => vs.length = n ∧ zs.length = nk ∧ c.sp (.ref p :: c.arr vs zs) H3 Q (fun cls d H' => W cls d σ H'))
    (mono : ∀ P P' : V → Hp → Prop, (∀ x H, P x H → P' x H) → ta σ H P → ta σ H P') : mC g m n nk ks ta t tk W σ H Q := mC_own2 hm (List.mem_cons_of_mem _ List.mem_cons_self) h mono
/-- an own method of another call's answer -/
theorem mC_ko {g : G} {m : Str} {n nk : Nat} {ks : List Str} {ta : TE} {t tk : TA} {W : WX} {σ : St} {H : Hp} {Q : VK}
    (h : ∀ N : V → Hp → Prop, (∀ (c : MtI) p dx fs H1, c ∈ mf g m n ks → H1 p = some (.ins c.cls dx fs) → fs.lookup m = none → (t σ H1 fun vs H2 => tk σ H2 fun zs H3 => vs.length = n ∧ zs.length = nk ∧ c.sp (.ref p :: c.arr vs zs) H3 Q (fun cls d H' => W cls d σ H')) → N (.ref p) H1) → ta σ H N) : mC g m n nk ks ta t tk W σ H Q := by
  unfold mC cMeth
  refine h _ fun c p dx fs H1 hc e l q => ?_
  simp only [insOf, e, l]
  exact ⟨trivial, c, hc, rfl, q⟩
/-- a built-in's method -/
theorem mC_blt {g : G} {m : Str} {n : Nat} {ks : List Str} {ta : TE} {t tk : TA} {W : WX} {σ : St} {H : Hp} {Q : VK}
    (h : ta σ H fun x H1 => insOf H1 x = none ∧ ∃ T, tyB g.K H1 x = some T ∧ ∃ b, (bf g.K m).find? (fun b => b.T == T) = some b ∧ t σ H1 fun vs H2 => b.r x vs H2 Q)
    (mono : ∀ P P' : V → Hp → Prop, (∀ x H, P x H → P' x H) → ta σ H P → ta σ H P') : mC g m n 0 ks ta t tk W σ H Q := by
  unfold mC cMeth
  refine mono _ _ (fun x H1 q => ?_) h
  obtain ⟨h1, T, h2, b, h3, q⟩ := q
  simp only [h1, h2, h3, true_and]
  exact q
theorem mono_var {i : Nat} {σ : St} {H : Hp} {P P' : V → Hp → Prop} (h : ∀ x H, P x H → P' x H) (q : cVar i σ H P) : cVar i σ H P' := by
  unfold cVar at q ⊢
  split at q
  · exact h _ _ q
  · exact q.elim
theorem mono_C {v : V} {σ : St} {H : Hp} {P P' : V → Hp → Prop} (h : ∀ x H, P x H → P' x H) (q : tC v σ H P) : tC v σ H P' := h _ _ q
/-- own specials, one candidate -/
theorem spc_one {g : G} {m : Str} {C : Addr} {x : V} {vs : List V} {H : Hp} {Q : VK} {c : MtI} (hm : cands g m vs.length = [c]) (hc : c.cls = C) (h : c.sp (x :: c.arr vs []) H Q (fun _ _ _ => False)) : spc g m C x vs H Q :=
  ⟨c, by rw [hm]; exact List.mem_singleton_self _, hc, h⟩
theorem spc_L {g : G} {m : Str} {C : Addr} {x : V} {vs : List V} {H : Hp} {Q : VK} {c c' : MtI} (hm : cands g m vs.length = [c, c']) (hc : c.cls = C) (h : c.sp (x :: c.arr vs []) H Q (fun _ _ _ => False)) : spc g m C x vs H Q :=
  ⟨c, by rw [hm]; exact List.mem_cons_self, hc, h⟩
theorem spc_R {g : G} {m : Str} {C : Addr} {x : V} {vs : List V} {H : Hp} {Q : VK} {c c' : MtI} (hm : cands g m vs.length = [c', c]) (hc : c.cls = C) (h : c.sp (x :: c.arr vs []) H Q (fun _ _ _ => False)) : spc g m C x vs H Q :=
  ⟨c, by rw [hm]; exact List.mem_cons_of_mem _ List.mem_cons_self, hc, h⟩
end WR

set_option Elab.async false
set_option linter.all false
set_option maxRecDepth 100000
set_option maxHeartbeats 4000000
namespace WR
open PySem PySem.Spec PyProof.Rows L2
/-! ## rules for walking the readings -/
section
variable {K : PySem.W.Frag} {H : Hp} {a : Addr} {xs : List V} {x y : V} {Q : VK} {g : G}
theorem ins_look {u : HO} (h : look K H a = some u) (hu : ∀ C dx fs, u ≠ .ins C dx fs) : insOf H (.ref a) = none := by
  unfold look at h
  cases e : H a with
  | none => simp only [insOf, e]
  | some o =>
    rw [e] at h
    cases o <;> simp only [insOf, e]
    cases h
    exact absurd rfl (hu _ _ _)
theorem ins_lst (h : look K H a = some (.lst xs)) : insOf H (.ref a) = none := ins_look h fun _ _ _ z => nomatch z
theorem ins_tup (h : look K H a = some (.tup xs)) : insOf H (.ref a) = none := ins_look h fun _ _ _ z => nomatch z
theorem ins_dK {kvs : List (Key × V)} (h : look K H a = some (.dK kvs)) : insOf H (.ref a) = none := ins_look h fun _ _ _ z => nomatch z
theorem ins_int {i : Int} : insOf H (.int i) = none := rfl
theorem ins_str {i : Str} : insOf H (.str i) = none := rfl
theorem ins_non : insOf H .non = none := rfl
theorem ins_bl {b : Bool} : insOf H (.bl b) = none := rfl
theorem ins_ins {C dx : Addr} {fs : List (Str × V)} (h : H a = some (.ins C dx fs)) : insOf H (.ref a) = some (a, C, fs) := by simp only [insOf, h]
theorem ty_lst (h : look K H a = some (.lst xs)) : tyN K H (.ref a) = some "list" := by simp only [tyN, h]
theorem ty_tup (h : look K H a = some (.tup xs)) : tyN K H (.ref a) = some "tuple" := by simp only [tyN, h]
theorem ty_dK {kvs : List (Key × V)} (h : look K H a = some (.dK kvs)) : tyN K H (.ref a) = some "dict" := by simp only [tyN, h]
theorem ty_ins {x : V} {n : String} (h : tyN K H x = some n) : insOf H x = none := by
  cases x with
  | ref p =>
    cases e : H p with
    | none => simp only [insOf, e]
    | some o =>
      cases o <;> simp only [insOf, e]
      simp [tyN, look, e] at h
  | _ => rfl
/-! ### len, isinstance, subscripts -/
theorem len_lst (hg : g.K = K) (h : look K H a = some (.lst xs)) : bLenG g [.ref a] H Q = Q (.int xs.length) H := by
  unfold bLenG; simp only [ins_lst h]; unfold bLen; rw [hg]; simp only [h]
theorem len_tup (hg : g.K = K) (h : look K H a = some (.tup xs)) : bLenG g [.ref a] H Q = Q (.int xs.length) H := by
  unfold bLenG; simp only [ins_tup h]; unfold bLen; rw [hg]; simp only [h]
theorem len_dK {kvs : List (Key × V)} (hg : g.K = K) (h : H a = some (.dK kvs)) : bLenG g [.ref a] H Q = Q (.int kvs.length) H := by
  have e : look K H a = some (.dK kvs) := look_of_dK h
  unfold bLenG; simp only [ins_dK e]; unfold bLen; rw [hg]; simp only [e, h]
theorem len_str {s : Str} : bLenG g [.str s] H Q = (s.length ≤ sizeLine ∧ Q (.int s.length) H) := rfl
theorem isi_ty {n T : String} {b : Bool} (h : tyN K H x = some n) (e : kitB n T = some b) : bIsi K [x, .ty T] H Q = Q (.bl b) H := by
  simp only [bIsi, h, e]
theorem ix_lst {i : Int} {v : V} (h : look K H a = some (.lst xs)) (e : atI xs i = some v) : oIx K (.ref a) (.int i) H Q = Q v H := by simp only [oIx, h, e]
theorem ix_tup {i : Int} {v : V} (h : look K H a = some (.tup xs)) (e : atI xs i = some v) : oIx K (.ref a) (.int i) H Q = Q v H := by simp only [oIx, h, e]
theorem ix_dK {kvs : List (Key × V)} {k : Key} {v : V} (h : H a = some (.dK kvs) ∨ ∃ o, H a = some (.frz o (.dK kvs))) : (.some v = valV kvs k) → oIx K (.ref a) (kV k) H Q = Q v H := fun ev => by
  have e : look K H a = some (.dK kvs) := by
    rcases h with h | ⟨o, h⟩
    · exact look_of_dK h
    · unfold look; rw [h]
  simp only [oIx, e, oGet]
  rcases h with h | ⟨o, h⟩ <;> simp only [h] <;> cases k <;> simp only [kV, keyOf, ← ev]
theorem in_dK {kvs : List (Key × V)} {k : Key} {b : Bool} (h : H a = some (.dK kvs) ∨ ∃ o, H a = some (.frz o (.dK kvs))) : oIn K b (kV k) (.ref a) H Q = Q (.bl (b ^^ (valV kvs k).isSome)) H := by
  have e : look K H a = some (.dK kvs) := by
    rcases h with h | ⟨o, h⟩
    · exact look_of_dK h
    · unfold look; rw [h]
  simp only [oIn, e, oGet]
  rcases h with h | ⟨o, h⟩ <;> simp only [h] <;> cases k <;> rfl
theorem eq_scal (hg : g.K = K) (h1 : insOf H x = none) (h2 : scal x y = true) (h : Q (.bl (decide (x = y))) H) : oEqG g x y H Q := by
  refine .inl ?_; unfold oEqG0; simp only [h1]; exact .inl (.inl ⟨h2, h⟩)
theorem ne_scal (hg : g.K = K) (h1 : insOf H x = none) (h2 : scal x y = true) (h : Q (.bl (!decide (x = y))) H) : oNeG g x y H Q := by
  unfold oNeG; simp only [h1]; exact .inl (.inl ⟨h2, h⟩)
theorem atI_nat {α : Type} {xs : List α} {k : Nat} : atI xs (k : Int) = xs[k]? := by
  unfold atI ixN
  by_cases h : k < xs.length
  · simp [h]
  · simp [h]
end
/-! ### loops by an invariant -/
theorem lp_inv {J : It} {g : TG} {tb : TS} {D : Ends} {n : Nat} (P : Nat → St → Hp → Prop)
    (hstop : ∀ σ H, P n σ H → J.stop n H ∧ D.nx σ H)
    (hgo : ∀ i σ H, i < n → P i σ H → ∀ R : St → Hp → Prop, (∀ σ' H', P (i + 1) σ' H' → R σ' H') → J.go i H ∧ ∀ x H', J.yld i H x H' → g x σ H' fun σ2 H2 => tb { D with nx := R, ct := R, bk := D.nx } σ2 H2)
    {σ : St} {H : Hp} (h : P 0 σ H) : ∃ m, lp J g tb D m 0 σ H := by
  have key : ∀ m i σ H, m + i = n → P i σ H → lp J g tb D m i σ H := by
    intro m
    induction m with
    | zero =>
      intro i σ H hm p
      have : i = n := by omega
      subst this
      exact hstop _ _ p
    | succ m ih =>
      intro i σ H hm p
      exact .inr (hgo i σ H (by omega) p _ fun σ' H' q => ih (i + 1) σ' H' (by omega) q)
  exact ⟨n, key n 0 σ H (by omega) h⟩
theorem lpc_inv {J : It} {g : TG} {tt : TT} {te : TE} {vs : List Nat} {σ : St} {D : Addr} {Q : VK} {n : Nat} (P : Nat → Hp → Prop)
    (hstop : ∀ H, P n H → J.stop n H ∧ Q (.ref D) H)
    (hgo : ∀ i H, i < n → P i H → ∀ R : Hp → Prop, (∀ H', P (i + 1) H' → R H') → J.go i H ∧ ∀ x H', J.yld i H x H' → g x (wipe σ vs) H' fun σ2 H2 => wipe σ2 vs = wipe σ vs ∧ tt σ2 H2 fun b H3 =>
      if b = true then te σ2 H3 fun y H4 => ∃ acc, H4 D = some (.lst acc) ∧ acc.length < sizeLine ∧ R (upd H4 D (.lst (acc ++ [y]))) else R H3)
    {H : Hp} (h : P 0 H) : ∃ m, lpc J g tt te vs σ D Q m 0 H := by
  have key : ∀ m i H, m + i = n → P i H → lpc J g tt te vs σ D Q m i H := by
    intro m
    induction m with
    | zero =>
      intro i H hm p
      have : i = n := by omega
      subst this
      exact hstop _ p
    | succ m ih =>
      intro i H hm p
      exact .inr (hgo i H (by omega) p _ fun H' q => ih (i + 1) H' (by omega) q)
  exact ⟨n, key n 0 H (by omega) h⟩
theorem lpd_inv {J : It} {g : TG} {tt : TT} {tk tv : TE} {vs : List Nat} {σ : St} {D : Addr} {Q : VK} {n : Nat} (P : Nat → Hp → Prop)
    (hstop : ∀ H, P n H → J.stop n H ∧ Q (.ref D) H)
    (hgo : ∀ i H, i < n → P i H → ∀ R : Hp → Prop, (∀ H', P (i + 1) H' → R H') → J.go i H ∧ ∀ x H', J.yld i H x H' → g x (wipe σ vs) H' fun σ2 H2 => wipe σ2 vs = wipe σ vs ∧ tt σ2 H2 fun b H3 =>
      if b = true then tk σ2 H3 fun y H4 => tv σ2 H4 fun z H5 => ∃ kvs k, y = kV k ∧ H5 D = some (.dK kvs) ∧ kvs.length < sizeLine ∧ R (upd H5 D (.dK (putK kvs k z))) else R H3)
    {H : Hp} (h : P 0 H) : ∃ m, lpd J g tt tk tv vs σ D Q m 0 H := by
  have key : ∀ m i H, m + i = n → P i H → lpd J g tt tk tv vs σ D Q m i H := by
    intro m
    induction m with
    | zero =>
      intro i H hm p
      have : i = n := by omega
      subst this
      exact hstop _ p
    | succ m ih =>
      intro i H hm p
      exact .inr (hgo i H (by omega) p _ fun H' q => ih (i + 1) H' (by omega) q)
  exact ⟨n, key n 0 H (by omega) h⟩
/-! ### what stays -/
/-- all that was tracked stays as it is -/
abbrev Ex (H H' : Hp) : Prop := ∀ b o, H b = some o → H' b = some o
theorem Ex.refl {H : Hp} : Ex H H := fun _ _ e => e
theorem Ex.trans {H H1 H2 : Hp} (a : Ex H H1) (b : Ex H1 H2) : Ex H H2 := fun c o e => b c o (a c o e)
theorem Ex.new {H H1 : Hp} {p : Addr} {o : HO} (x : Ex H H1) (h : H p = none) : Ex H (upd H1 p o) := fun b u e => by
  rw [upd_ne (ne_of_none e h)]; exact x b u e
theorem Ex.none {H H1 : Hp} {p : Addr} (x : Ex H H1) (h : H1 p = none) : H p = none := by
  cases e : H p with
  | none => rfl
  | some o => rw [x p o e] at h; cases h
/-- .. but what stands at d -/
abbrev Exd (d : Addr) (H H' : Hp) : Prop := ∀ b o, b ≠ d → H b = some o → H' b = some o
/-- what a look sees of lists and tuples stays -/
theorem look_ex {K : PySem.W.Frag} {H H' : Hp} {a : Addr} {u : HO} (x : Ex H H') (hH : H a ≠ none) (h : look K H a = some u) : look K H' a = some u := by
  unfold look at h ⊢
  cases e : H a with
  | none => exact absurd e hH
  | some o => rw [x a o e]; rw [e] at h; exact h
end WR

set_option Elab.async false
set_option linter.all false
set_option maxRecDepth 100000
set_option maxHeartbeats 4000000
namespace WR
open PySem PySem.Spec PyProof.Rows L2
/-! ## sorted texts -/
theorem ltCps_irrefl : ∀ l : List Nat, ltCps l l = false
  | [] => rfl
  | a :: r => by simp [ltCps, ltCps_irrefl r]
theorem ltCps_asymm : ∀ l m : List Nat, ltCps l m = false → ltCps m l = false → l = m
  | [], [], _, _ => rfl
  | [], _ :: _, h, _ => by simp [ltCps] at h
  | _ :: _, [], _, h => by simp [ltCps] at h
  | a :: r, b :: t, h, k => by
    simp only [ltCps, Bool.or_eq_false_iff, decide_eq_false_iff_not, Bool.and_eq_false_iff, beq_eq_false_iff_ne] at h k
    have e : a = b := by omega
    subst e
    have h2 : ltCps r t = false := h.2.resolve_left (fun z => z rfl)
    have k2 : ltCps t r = false := k.2.resolve_left (fun z => z rfl)
    rw [ltCps_asymm r t h2 k2]
theorem ltCps_trans : ∀ l m n : List Nat, ltCps m l = false → ltCps n m = false → ltCps n l = false
  | [], m, n, h, k => by
    cases n with
    | nil => rfl
    | cons c u => rfl
  | a :: r, [], n, h, k => by simp [ltCps] at h
  | a :: r, b :: t, [], h, k => by simp [ltCps] at k
  | a :: r, b :: t, c :: u, h, k => by
    simp only [ltCps, Bool.or_eq_false_iff, decide_eq_false_iff_not, Bool.and_eq_false_iff, beq_eq_false_iff_ne] at h k ⊢
    refine ⟨by omega, ?_⟩
    by_cases e1 : c = a
    · have e2 : b = a := by omega
      have e3 : c = b := by omega
      have h2 : ltCps t r = false := h.2.resolve_left (fun z => z e2)
      have k2 : ltCps u t = false := k.2.resolve_left (fun z => z e3)
      exact .inr (ltCps_trans r t u h2 k2)
    · exact .inl e1
theorem str_ext {a b : Str} (h : a.cps.toList = b.cps.toList) : a = b := by
  obtain ⟨x⟩ := a
  obtain ⟨y⟩ := b
  have : x = y := Array.toList_inj.mp h
  rw [this]
/-- not ahead -/
def leS (a b : Str) : Prop := ltCps b.cps.toList a.cps.toList = false
theorem rising_all : ∀ (r : List Str) (p : Str), risingS p r = true → (∀ x ∈ r, leS p x) ∧ r.Pairwise leS
  | [], p, _ => ⟨fun x h => (nomatch h), List.Pairwise.nil⟩
  | x :: r, p, h => by
    simp only [risingS, Bool.and_eq_true, Bool.not_eq_true'] at h
    obtain ⟨h1, h2⟩ := rising_all r x h.2
    refine ⟨fun y hy => ?_, List.pairwise_cons.mpr ⟨h1, h2⟩⟩
    rcases List.mem_cons.mp hy with rfl | hy
    · exact h.1
    · exact ltCps_trans _ _ _ h.1 (h1 y hy)
theorem sortedS_pw {l : List Str} (h : sortedS l = true) : l.Pairwise leS := by
  cases l with
  | nil => exact List.Pairwise.nil
  | cons x r =>
    obtain ⟨h1, h2⟩ := rising_all r x h
    exact List.pairwise_cons.mpr ⟨h1, h2⟩
theorem pw_uniq : ∀ {l m : List Str}, l.Perm m → l.Pairwise leS → m.Pairwise leS → l = m
  | [], m, p, _, _ => p.nil_eq
  | x :: r, [], p, _, _ => absurd p.symm.nil_eq (by simp)
  | x :: r, y :: t, p, h, k => by
    rw [List.pairwise_cons] at h k
    have e : x = y := by
      have hx : x ∈ y :: t := p.mem_iff.mp (List.mem_cons_self ..)
      have hy : y ∈ x :: r := p.mem_iff.mpr (List.mem_cons_self ..)
      rcases List.mem_cons.mp hx with e | hx
      · exact e
      · rcases List.mem_cons.mp hy with e | hy
        · exact e.symm
        · exact str_ext (ltCps_asymm _ _ (k.1 x hx) (h.1 y hy))
    subst e
    rw [pw_uniq (List.Perm.cons_inv p) h.2 k.2]
/-- two sorted lists of the same texts are one -/
theorem srt_uniq {l m k : List Str} (h1 : l.Perm k) (h2 : sortedS l = true) (h3 : m.Perm k) (h4 : sortedS m = true) : l = m :=
  pw_uniq (h1.trans h3.symm) (sortedS_pw h2) (sortedS_pw h4)
theorem srt_filter {l m k : List Str} {f : Str → Bool} (h1 : l.Perm k) (h2 : sortedS l = true) (h3 : m.Perm (k.filter f)) (h4 : sortedS m = true) : l.filter f = m :=
  pw_uniq ((h1.filter f).trans h3.symm) ((sortedS_pw h2).filter f) (sortedS_pw h4)
/-! ## dicts from names to pairs of numbers -/
abbrev Rws := List (Str × (Int × Int))
def rget (rs : Rws) (n : Str) : Option (Int × Int) := (rs.find? fun r => decide (r.1 = n)).map (·.2)
def rput (rs : Rws) (n : Str) (p : Int × Int) : Rws := if (rs.any fun r => decide (r.1 = n)) = true then rs.map (fun r => if r.1 = n then (r.1, p) else r) else rs ++ [(n, p)]
def rdrop (rs : Rws) (n : Str) : Rws := rs.filter fun r => decide (r.1 ≠ n)
/-- the dict's pairs, each value a tuple of two numbers -/
def RR (H : Hp) : List (Key × V) → Rws → Prop
  | [], [] => True
  | (k, v) :: kvs, (n, c, l) :: rs => k = .inr n ∧ (∃ t, v = .ref t ∧ H t = some (.tup [.int c, .int l])) ∧ RR H kvs rs
  | _, _ => False
/-- tuples stay -/
abbrev Tp (H H' : Hp) : Prop := ∀ t xs, H t = some (.tup xs) → H' t = some (.tup xs)
theorem Ex.tp {H H' : Hp} (x : Ex H H') : Tp H H' := fun t xs e => x t _ e
theorem RR.tp {H H' : Hp} (x : Tp H H') : ∀ {kvs : List (Key × V)} {rs : Rws}, RR H kvs rs → RR H' kvs rs
  | [], [], _ => trivial
  | [], _ :: _, h => h.elim
  | _ :: _, [], h => h.elim
  | (k, v) :: kvs, (n, c, l) :: rs, h => ⟨h.1, by obtain ⟨t, e, q⟩ := h.2.1; exact ⟨t, e, x _ _ q⟩, RR.tp x h.2.2⟩
theorem RR.len {H : Hp} : ∀ {kvs : List (Key × V)} {rs : Rws}, RR H kvs rs → kvs.length = rs.length
  | [], [], _ => rfl
  | [], _ :: _, h => h.elim
  | _ :: _, [], h => h.elim
  | (k, v) :: kvs, (n, c, l) :: rs, h => congrArg Nat.succ (RR.len h.2.2)
theorem RR.keys {H : Hp} : ∀ {kvs : List (Key × V)} {rs : Rws}, RR H kvs rs → keysS kvs = some (rs.map (·.1))
  | [], [], _ => rfl
  | [], _ :: _, h => h.elim
  | _ :: _, [], h => h.elim
  | (k, v) :: kvs, (n, c, l) :: rs, h => by
    obtain ⟨rfl, _, r⟩ := h
    simp only [keysS, RR.keys r, List.map_cons, Option.map_some]
theorem RR.any {H : Hp} (n : Str) : ∀ {kvs : List (Key × V)} {rs : Rws}, RR H kvs rs → (kvs.any fun kv => decide (kv.1 = .inr n)) = (rs.any fun r => decide (r.1 = n))
  | [], [], _ => rfl
  | [], _ :: _, h => h.elim
  | _ :: _, [], h => h.elim
  | (k, v) :: kvs, (m, c, l) :: rs, h => by
    obtain ⟨rfl, _, r⟩ := h
    simp only [List.any_cons, RR.any n r, Sum.inr.injEq]
theorem RR.get {H : Hp} (n : Str) : ∀ {kvs : List (Key × V)} {rs : Rws}, RR H kvs rs → (valV kvs (.inr n) = none ∧ rget rs n = none) ∨ ∃ t c l, valV kvs (.inr n) = some (.ref t) ∧ rget rs n = some (c, l) ∧ H t = some (.tup [.int c, .int l])
  | [], [], _ => .inl ⟨rfl, rfl⟩
  | [], _ :: _, h => h.elim
  | _ :: _, [], h => h.elim
  | (k, v) :: kvs, (m, c, l) :: rs, h => by
    obtain ⟨rfl, ⟨t, rfl, e⟩, r⟩ := h
    by_cases hm : m = n
    · subst hm
      exact .inr ⟨t, c, l, valV_pos rfl, by simp [rget], e⟩
    · have h1 : ¬ ((Sum.inr m : Key) = Sum.inr n) := fun z => hm (Sum.inr.inj z)
      rcases RR.get n r with ⟨a, b⟩ | ⟨t', c', l', a, b, d⟩
      · exact .inl ⟨by rw [valV_neg h1]; exact a, by simp [rget, List.find?_cons, hm] at b ⊢; exact b⟩
      · exact .inr ⟨t', c', l', by rw [valV_neg h1]; exact a, by simp [rget, List.find?_cons, hm] at b ⊢; exact b, d⟩
theorem RR.app {H : Hp} {n : Str} {t : Addr} {c l : Int} (e : H t = some (.tup [.int c, .int l])) : ∀ {kvs : List (Key × V)} {rs : Rws}, RR H kvs rs → RR H (kvs ++ [(.inr n, .ref t)]) (rs ++ [(n, c, l)])
  | [], [], _ => ⟨rfl, ⟨t, rfl, e⟩, trivial⟩
  | [], _ :: _, h => h.elim
  | _ :: _, [], h => h.elim
  | (k, v) :: kvs, (m, c', l') :: rs, h => ⟨h.1, h.2.1, RR.app e h.2.2⟩
theorem RR.map {H : Hp} {n : Str} {t : Addr} {c l : Int} (e : H t = some (.tup [.int c, .int l])) : ∀ {kvs : List (Key × V)} {rs : Rws}, RR H kvs rs → RR H (kvs.map fun kv => if kv.1 = .inr n then (kv.1, V.ref t) else kv) (rs.map fun r => if r.1 = n then (r.1, c, l) else r)
  | [], [], _ => trivial
  | [], _ :: _, h => h.elim
  | _ :: _, [], h => h.elim
  | (k, v) :: kvs, (m, c', l') :: rs, h => by
    obtain ⟨rfl, q, r⟩ := h
    by_cases hm : m = n
    · simp only [List.map_cons, Sum.inr.injEq, hm, if_true]
      exact ⟨rfl, ⟨t, rfl, e⟩, RR.map e r⟩
    · simp only [List.map_cons, Sum.inr.injEq, hm, if_false]
      exact ⟨rfl, q, RR.map e r⟩
theorem RR.put {H : Hp} {n : Str} {t : Addr} {c l : Int} {kvs : List (Key × V)} {rs : Rws} (e : H t = some (.tup [.int c, .int l])) (h : RR H kvs rs) : RR H (putK kvs (.inr n) (.ref t)) (rput rs n (c, l)) := by
  unfold putK rput
  rw [RR.any n h]
  split
  · exact RR.map e h
  · exact RR.app e h
theorem RR.drop {H : Hp} (n : Str) : ∀ {kvs : List (Key × V)} {rs : Rws}, RR H kvs rs → RR H (dropK kvs (.inr n)) (rdrop rs n)
  | [], [], _ => trivial
  | [], _ :: _, h => h.elim
  | _ :: _, [], h => h.elim
  | (k, v) :: kvs, (m, c', l') :: rs, h => by
    obtain ⟨rfl, q, r⟩ := h
    by_cases hm : m = n
    · have e1 : dropK ((Sum.inr m, v) :: kvs) (Sum.inr n : Key) = dropK kvs (.inr n) := dropK_pos (by rw [hm])
      rw [e1]
      simp only [rdrop, List.filter_cons, hm, ne_eq, not_true, decide_false, Bool.false_eq_true, if_false]
      exact RR.drop n r
    · have e1 : dropK ((Sum.inr m, v) :: kvs) (Sum.inr n : Key) = (Sum.inr m, v) :: dropK kvs (.inr n) := dropK_neg (fun z => hm (Sum.inr.inj z))
      rw [e1]
      simp only [rdrop, List.filter_cons, hm, ne_eq, not_false_eq_true, decide_true, if_true]
      exact ⟨rfl, q, RR.drop n r⟩
theorem rput_len (rs : Rws) (n : Str) (p : Int × Int) : (rput rs n p).length ≤ rs.length + 1 := by
  unfold rput; split <;> simp
/-- a dict of such rows at d -/
def RAt (H : Hp) (d : Addr) (rs : Rws) : Prop := ∃ kvs, H d = some (.dK kvs) ∧ RR H kvs rs
theorem RAt.ex {H H' : Hp} {d : Addr} {rs : Rws} (x : Ex H H') (h : RAt H d rs) : RAt H' d rs := by
  obtain ⟨kvs, e, r⟩ := h
  exact ⟨kvs, x _ _ e, r.tp x.tp⟩
/-- one statement: what comes behind is a name -/
theorem seq_ {t u : TS} {D : Ends} {σ : St} {H : Hp} (h : ∀ N : St → Hp → Prop, (∀ σ H, u D σ H → N σ H) → t { D with nx := N } σ H) : tSeq t u D σ H := h _ fun _ _ q => q
theorem lk1 {f m : Str} {v : V} (h : (m == f) = false) : List.lookup m [(f, v)] = none := by
  simp only [List.lookup, h]
/-! ## a dict's looks by a text -/
section
variable {K : PySem.W.Frag} {H : Hp} {a : Addr} {Q : VK}
theorem in_dS {kvs : List (Key × V)} {s : Str} {b : Bool} (h : H a = some (.dK kvs)) : oIn K b (.str s) (.ref a) H Q = Q (.bl (b ^^ (valV kvs (.inr s)).isSome)) H := in_dK (k := .inr s) (.inl h)
theorem ix_dS {kvs : List (Key × V)} {s : Str} {v : V} (h : H a = some (.dK kvs)) (e : valV kvs (.inr s) = some v) : oIx K (.ref a) (.str s) H Q = Q v H := ix_dK (k := .inr s) (.inl h) e.symm
theorem ix_dSf {kvs : List (Key × V)} {s : Str} {v : V} {o : Obj} (h : H a = some (.frz o (.dK kvs))) (e : valV kvs (.inr s) = some v) : oIx K (.ref a) (.str s) H Q = Q v H := ix_dK (k := .inr s) (.inr ⟨o, h⟩) e.symm
theorem set_dS {kvs : List (Key × V)} {s : Str} {v : V} {R : Hp → Prop} (h : H a = some (.dK kvs)) (hl : kvs.length < 1000) (q : R (upd H a (.dK (putK kvs (.inr s) v)))) : oSet (.ref a) (.str s) v H R := by
  simp only [oSet, h, keyOf]
  exact ⟨Nat.lt_trans hl (small1000 (Nat.le_refl _)), q⟩
end
end WR

set_option Elab.async false
set_option linter.all false
set_option maxRecDepth 100000
set_option maxHeartbeats 4000000
/-! helpers of all laws: small numbers, loops, indexes, frames, the digit boxes -/
namespace WR
open PySem PySem.Spec PyProof.Rows L2
theorem kb_non_int : kitB "NoneType" "int" = some false := by kernel_rfl
theorem kb_non_bool : kitB "NoneType" "bool" = some false := by kernel_rfl
theorem kb_non_str : kitB "NoneType" "str" = some false := by kernel_rfl
theorem kb_non_list : kitB "NoneType" "list" = some false := by kernel_rfl
theorem kb_non_dict : kitB "NoneType" "dict" = some false := by kernel_rfl
theorem kb_non_tuple : kitB "NoneType" "tuple" = some false := by kernel_rfl
theorem kb_bool_int : kitB "bool" "int" = some true := by kernel_rfl
theorem kb_bool_bool : kitB "bool" "bool" = some true := by kernel_rfl
theorem kb_bool_str : kitB "bool" "str" = some false := by kernel_rfl
theorem kb_bool_list : kitB "bool" "list" = some false := by kernel_rfl
theorem kb_bool_dict : kitB "bool" "dict" = some false := by kernel_rfl
theorem kb_bool_tuple : kitB "bool" "tuple" = some false := by kernel_rfl
theorem kb_int_int : kitB "int" "int" = some true := by kernel_rfl
theorem kb_int_bool : kitB "int" "bool" = some false := by kernel_rfl
theorem kb_int_str : kitB "int" "str" = some false := by kernel_rfl
theorem kb_int_list : kitB "int" "list" = some false := by kernel_rfl
theorem kb_int_dict : kitB "int" "dict" = some false := by kernel_rfl
theorem kb_int_tuple : kitB "int" "tuple" = some false := by kernel_rfl
theorem kb_str_int : kitB "str" "int" = some false := by kernel_rfl
theorem kb_str_bool : kitB "str" "bool" = some false := by kernel_rfl
theorem kb_str_str : kitB "str" "str" = some true := by kernel_rfl
theorem kb_str_list : kitB "str" "list" = some false := by kernel_rfl
theorem kb_str_dict : kitB "str" "dict" = some false := by kernel_rfl
theorem kb_str_tuple : kitB "str" "tuple" = some false := by kernel_rfl
theorem kb_tuple_int : kitB "tuple" "int" = some false := by kernel_rfl
theorem kb_tuple_bool : kitB "tuple" "bool" = some false := by kernel_rfl
theorem kb_tuple_str : kitB "tuple" "str" = some false := by kernel_rfl
theorem kb_tuple_list : kitB "tuple" "list" = some false := by kernel_rfl
theorem kb_tuple_dict : kitB "tuple" "dict" = some false := by kernel_rfl
theorem kb_tuple_tuple : kitB "tuple" "tuple" = some true := by kernel_rfl
theorem kb_list_int : kitB "list" "int" = some false := by kernel_rfl
theorem kb_list_bool : kitB "list" "bool" = some false := by kernel_rfl
theorem kb_list_str : kitB "list" "str" = some false := by kernel_rfl
theorem kb_list_list : kitB "list" "list" = some true := by kernel_rfl
theorem kb_list_dict : kitB "list" "dict" = some false := by kernel_rfl
theorem kb_list_tuple : kitB "list" "tuple" = some false := by kernel_rfl
theorem kb_dict_int : kitB "dict" "int" = some false := by kernel_rfl
theorem kb_dict_bool : kitB "dict" "bool" = some false := by kernel_rfl
theorem kb_dict_str : kitB "dict" "str" = some false := by kernel_rfl
theorem kb_dict_list : kitB "dict" "list" = some false := by kernel_rfl
theorem kb_dict_dict : kitB "dict" "dict" = some true := by kernel_rfl
theorem kb_dict_tuple : kitB "dict" "tuple" = some false := by kernel_rfl
section
variable {K : PySem.W.Frag} {H H1 H' : Hp} {Q : VK} {E : XK}
theorem log_small {a : Nat} (h : a < 2 ^ 64) : a.log2 < 64 := by
  by_cases z : a = 0
  · subst z; decide
  · exact (Nat.log2_lt z).mpr h
theorem cmul_of {a b : Int} (ha : a.natAbs < 2 ^ 64) (hb : b.natAbs < 2 ^ 64) : CMulW a b := by
  unfold CMulW
  have := log_small ha
  have := log_small hb
  omega
theorem cdiv_of {a b : Int} (h0 : 0 < b) (hb : b.natAbs < 2 ^ 64) : CDivW a b := by
  unfold CDivW
  have := log_small hb
  omega
theorem mod_b {a : Int} {m : Int} (hm : 0 < m) : 0 ≤ a % m ∧ a % m < m := ⟨Int.emod_nonneg _ (by omega), Int.emod_lt_of_pos _ hm⟩
theorem ifS_ {c : TT} {t u : TS} {D : Ends} {σ : L2.St} {H : Hp} (h : ∀ A B : Hp → Prop, (∀ H, t D σ H → A H) → (∀ H, u D σ H → B H) → c σ H fun b H1 => if b = true then A H1 else B H1) : tIfS c t u D σ H := h _ _ (fun _ q => q) fun _ q => q
theorem itr_yld {lo : Int} {N i : Nat} {x : V} {H' : Hp} (h : (Itr lo N).yld i H x H') : H' = H ∧ x = .int (lo + i) := h
theorem itl_yld {l : Addr} {xs : List V} {i : Nat} {x : V} {H' : Hp} (e : H l = some (.lst xs)) (h : (Itl K l).yld i H x H') : H' = H ∧ xs[i]? = some x := ⟨h.1, h.2 xs (.inl (.inl e))⟩
theorem itl_go {l : Addr} {xs : List V} {i : Nat} (e : H l = some (.lst xs)) (hi : i < xs.length) : (Itl K l).go i H := ⟨xs, xs[i], .inl (.inl e), by simp [hi]⟩
theorem itl_stop {l : Addr} {xs : List V} {i : Nat} (e : H l = some (.lst xs)) (hi : xs.length ≤ i) : (Itl K l).stop i H := ⟨xs, .inl (.inl e), hi⟩
theorem tyB_lst {a : Addr} {xs : List V} (h : look K H a = some (.lst xs)) : tyB K H (.ref a) = some "list" := by simp only [tyB, h]
theorem tyB_dK {a : Addr} {kvs : List (Key × V)} (h : H a = some (.dK kvs)) : tyB K H (.ref a) = some "dict" := by
  simp only [tyB, look_of_dK (K := K) h, h]
theorem b_append : (bf K "append").find? (fun b => b.T == "list") = some ⟨"list", "append", "list.append", mAppend⟩ := by kernel_rfl
theorem b_extend : (bf K "extend").find? (fun b => b.T == "list") = some ⟨"list", "extend", "list.extend", mExtend⟩ := by kernel_rfl
theorem b_reverse : (bf K "reverse").find? (fun b => b.T == "list") = some ⟨"list", "reverse", "list.reverse", mReverse⟩ := by kernel_rfl
theorem b_index : (bf K "index").find? (fun b => b.T == "list") = some ⟨"list", "index", "list.index", mIndexL K⟩ := by kernel_rfl
theorem b_clearL : (bf K "clear").find? (fun b => b.T == "list") = some ⟨"list", "clear", "list.clear", mClearL⟩ := by kernel_rfl
theorem b_popL : (bf K "pop").find? (fun b => b.T == "list") = some ⟨"list", "pop", "list.pop", mPopL⟩ := by kernel_rfl
theorem b_get : (bf K "get").find? (fun b => b.T == "dict") = some ⟨"dict", "get", "dict.get", mGetD⟩ := by kernel_rfl
theorem b_pop : (bf K "pop").find? (fun b => b.T == "dict") = some ⟨"dict", "pop", "dict.pop", mPopD⟩ := by kernel_rfl
theorem b_clear : (bf K "clear").find? (fun b => b.T == "dict") = some ⟨"dict", "clear", "dict.clear", mClearD⟩ := by kernel_rfl
theorem b_join : (bf K "join").find? (fun b => b.T == "str") = some ⟨"str", "join", "str.join", mJoin K⟩ := by kernel_rfl
theorem oGet_mono {p : Addr} {y : V} {R R' : Option V → Prop} (h : ∀ o, R o → R' o) (q : oGet H p y R) : oGet H p y R' := by
  unfold oGet at q ⊢
  split at q
  · split at q
    · rename_i e; exact h _ q
    · exact q.elim
  · split at q
    · rename_i e; exact h _ q
    · exact q.elim
  · obtain ⟨k, b, e1, e2, q⟩ := q; exact ⟨k, b, e1, e2, h _ q⟩
  · obtain ⟨k, b, e1, e2, q⟩ := q; exact ⟨k, b, e1, e2, h _ q⟩
  · exact q.elim
theorem oIx_mono {x y : V} {P P' : V → Hp → Prop} (h : ∀ x H, P x H → P' x H) (q : oIx K x y H P) : oIx K x y H P' := by
  unfold oIx at q ⊢
  split at q
  · split at q
    · split at q
      · split at q
        · exact h _ _ q
        · exact q.elim
      · exact q.elim
    · split at q
      · split at q
        · exact h _ _ q
        · exact q.elim
      · exact q.elim
    · exact oGet_mono (fun o z => by
        cases o with
        | none => exact z
        | some v => exact h _ _ z) q
  · split at q
    · refine ⟨q.1, ?_⟩
      have q2 := q.2
      split at q2
      · exact h _ _ q2
      · exact q2.elim
    · exact q.elim
  · exact q.elim
theorem mono_ix {i j : Nat} {σ : L2.St} {P P' : V → Hp → Prop} (h : ∀ x H, P x H → P' x H) (q : tOp (oIx K) (cVar i) (cVar j) σ H P) : tOp (oIx K) (cVar i) (cVar j) σ H P' := by
  simp only [tOp] at q ⊢
  exact mono_var (fun x H1 q1 => mono_var (fun y H2 q2 => oIx_mono h q2) q1) q
theorem mono_ixC {i : Nat} {v : V} {σ : L2.St} {P P' : V → Hp → Prop} (h : ∀ x H, P x H → P' x H) (q : tOp (oIx K) (cVar i) (tC v) σ H P) : tOp (oIx K) (cVar i) (tC v) σ H P' := by
  simp only [tOp, tC] at q ⊢
  exact mono_var (fun x H1 q1 => oIx_mono h q1) q
theorem mono_ixCC {i : Nat} {v w : V} {σ : L2.St} {P P' : V → Hp → Prop} (h : ∀ x H, P x H → P' x H) (q : tOp (oIx K) (tOp (oIx K) (cVar i) (tC v)) (tC w) σ H P) : tOp (oIx K) (tOp (oIx K) (cVar i) (tC v)) (tC w) σ H P' := by
  simp only [tOp, tC] at q ⊢
  exact mono_var (fun x H1 q1 => oIx_mono (fun y H2 q2 => oIx_mono h q2) q1) q
theorem mono_attr {c : List Addr} {f : Str} {i : Nat} {σ : L2.St} {P P' : V → Hp → Prop} (h : ∀ x H, P x H → P' x H) (q : cAttr c f (cVar i) σ H P) : cAttr c f (cVar i) σ H P' := by
  unfold cAttr at q ⊢
  refine mono_var (fun x H1 q1 => ?_) q
  split at q1
  · rename_i a C fs e
    obtain ⟨hc, q1⟩ := q1
    refine ⟨hc, ?_⟩
    split at q1
    · exact h _ _ q1
    · exact q1.elim
  · exact q1.elim
theorem two_ix {bl : Addr} {x y : V} {c : Int} (h : H bl = some (.lst [x, y])) (q : Q (if c % 2 = 1 then y else x) H) : oIx K (.ref bl) (.int (c % 2)) H Q := by
  have m2 := mod_b (a := c) (m := 2) (by decide)
  rcases (by omega : c % 2 = 0 ∨ c % 2 = 1) with e | e
  · rw [e] at q ⊢
    rw [ix_lst (look_of_lst h) (v := x) rfl]
    simpa using q
  · rw [e] at q ⊢
    rw [ix_lst (look_of_lst h) (v := y) rfl]
    simpa using q
/-! ## frames -/
/-- all that is tracked stays, but what stands at the addresses of l -/
def Fr (l : List Addr) (H H' : Hp) : Prop := ∀ a o, a ∉ l → H a = some o → H' a = some o
theorem Fr.refl {l : List Addr} : Fr l H H := fun _ _ _ e => e
theorem Fr.ex {l : List Addr} (x : Ex H H') : Fr l H H' := fun a o _ e => x a o e
theorem Fr.to_ex (x : Fr [] H H') : Ex H H' := fun a o e => x a o (by simp) e
theorem Fr.trans {l : List Addr} (x : Fr l H H1) (z : Fr l H1 H') : Fr l H H' := fun a o n e => z a o n (x a o n e)
theorem Fr.mono {l m : List Addr} (x : Fr l H H') (h : ∀ a ∈ l, a ∈ m) : Fr m H H' := fun a o n e => x a o (fun z => n (h a z)) e
theorem Fr.put {l : List Addr} {a : Addr} {o : HO} (x : Fr l H H1) (h : a ∈ l) : Fr l H (upd H1 a o) := fun b u n e => by
  rw [upd_ne (fun z => n (by rw [z]; exact h))]; exact x b u n e
theorem Fr.new {l : List Addr} {a : Addr} {o : HO} (x : Fr l H H1) (h : H1 a = none) : Fr l H (upd H1 a o) := fun b u n e => by
  rw [upd_ne (fun z => by rw [z] at e; have := x a u (fun m => n (by rw [z]; exact m)) e; rw [h] at this; cases this)]; exact x b u n e
end
end WR

set_option Elab.async false
set_option linter.all false
set_option maxRecDepth 100000
set_option maxHeartbeats 4000000
/-! the digit boxes of the laws -/
namespace WR
open PySem PySem.Spec PyProof.Rows L2
section
variable {K : PySem.W.Frag} {H H1 H' : Hp} {Q : VK} {E : XK}
def takeR (K : PySem.W.Frag) (k1 s1 e1 m1 d1 k2 s2 e2 m2 d2 k3 d3 : Int) : TS :=
  (tSeq (tIfS (cTest (tOp (oGtK K) (tOp (oIx K) (cVar 0) (tC (.int 0))) (tC (.int 0))))
  (tSeq (tAsg (tOp oMod (tOp (oIx K) (cVar 0) (tC (.int 0))) (cVar 1)) (gName 4))
  (tSeq (tAsg (tOp oFdiv (tOp (oIx K) (cVar 0) (tC (.int 0))) (cVar 1)) (gSub (cVar 0) (tC (.int 0)) oSet))
  (tRet (cVar 4))))
  tNext)
  (tSeq (tAsg (tOp (oAdd K) (tOp (oIx K) (cVar 0) (tC (.int 2))) (tC (.int 1))) (gSub (cVar 0) (tC (.int 2)) oSet))
  (tSeq (tAsg (tOp oMod (tOp oPow (tOp (oAdd K) (tOp (oAdd K) (tOp (oIx K) (cVar 0) (tC (.int 1))) (tOp oMul (tC (.int k1)) (tOp (oIx K) (cVar 0) (tC (.int 2))))) (tC (.int s1))) (tC (.int e1))) (tC (.int m1))) (gName 2))
  (tSeq (tAsg (tOp oMod (tOp oPow (tOp (oAdd K) (tOp (oAdd K) (tOp oFdiv (cVar 2) (tC (.int d1))) (tOp oMul (tOp oMul (tC (.int k2)) (tOp (oIx K) (cVar 0) (tC (.int 2)))) (tOp (oIx K) (cVar 0) (tC (.int 2))))) (tC (.int s2))) (tC (.int e2))) (tC (.int m2))) (gName 3))
  (tRet (tOp oMod (tOp (oAdd K) (tOp oFdiv (cVar 2) (tC (.int d2))) (tOp oMul (tC (.int k3)) (tOp oFdiv (cVar 3) (tC (.int d3))))) (cVar 1)))))))
/-- a box that has given at most N drawn digits -/
def Bx (H : Hp) (b : Addr) (N : Nat) : Prop := ∃ a o c : Int, H b = some (.lst [.int a, .int o, .int c]) ∧ 0 ≤ a ∧ 0 ≤ o ∧ o < 2 ^ 31 ∧ 0 ≤ c ∧ c ≤ N
theorem Bx.mono {b : Addr} {N M : Nat} (h : Bx H b N) (l : N ≤ M) : Bx H b M := by
  obtain ⟨a, o, c, e, h1, h2, h3, h4, h5⟩ := h
  exact ⟨a, o, c, e, h1, h2, h3, h4, by omega⟩
theorem Bx.ex {b : Addr} {N : Nat} (x : Ex H H') (h : Bx H b N) : Bx H' b N := by
  obtain ⟨a, o, c, e, h1, h2, h3, h4, h5⟩ := h
  exact ⟨a, o, c, x _ _ e, h1, h2, h3, h4, h5⟩
theorem Bx.fr {b : Addr} {N : Nat} {l : List Addr} (x : Fr l H H') (n : b ∉ l) (h : Bx H b N) : Bx H' b N := by
  obtain ⟨a, o, c, e, h1, h2, h3, h4, h5⟩ := h
  exact ⟨a, o, c, x _ _ n e, h1, h2, h3, h4, h5⟩
theorem mul_lt {a b x y : Int} (h0 : 0 ≤ a) (h1 : a < x) (h2 : 0 ≤ b) (h3 : b < y) : 0 ≤ a * b ∧ a * b < x * y := by
  refine ⟨Int.mul_nonneg h0 h2, ?_⟩
  have e1 : a * b ≤ a * y := Int.mul_le_mul_of_nonneg_left (by omega) h0
  have e2 : a * y < x * y := Int.mul_lt_mul_of_pos_right h1 (by omega)
  omega
theorem take_ok {k1 s1 e1 m1 d1 k2 s2 e2 m2 d2 k3 d3 : Int} {b : Addr} {N : Nat} {many : Int} {D : Ends} (hx : Bx H b N) (hN : N < 100000) (h1 : 1 ≤ many) (h2 : many < 2 ^ 60)
    (c1 : 0 ≤ k1 ∧ k1 < 2 ^ 30) (c2 : 0 ≤ s1 ∧ s1 < 2 ^ 30) (c3 : 0 ≤ e1 ∧ e1 ≤ 10) (c4 : 0 < m1 ∧ m1 < 2 ^ 32) (c5 : 0 < d1 ∧ d1 < 2 ^ 32) (c6 : 0 ≤ k2 ∧ k2 < 2 ^ 28) (c7 : 0 ≤ s2 ∧ s2 < 2 ^ 30) (c8 : 0 ≤ e2 ∧ e2 ≤ 10)
    (c9 : 0 < m2 ∧ m2 < 2 ^ 32) (c10 : 0 < d2 ∧ d2 < 2 ^ 32) (c11 : 0 ≤ k3 ∧ k3 < 2 ^ 32) (c12 : 0 < d3 ∧ d3 < 2 ^ 32)
    (h : ∀ r H', 0 ≤ r → r < many → Bx H' b (N + 1) → Fr [b] H H' → D.rt (.int r) H') : takeR K k1 s1 e1 m1 d1 k2 s2 e2 m2 d2 k3 d3 D [some (.ref b), some (.int many), none, none, none] H := by
  obtain ⟨a, o, c, e, a0, o0, o1, n0, n1⟩ := hx
  unfold takeR
  refine seq_ fun N1 g1 => ifS_ fun A B hA hB => ?_
  simp only [cTest, tSeq, tIfS, tNext, tRet, tRetN, tDrop, tAsg, tC, cVar, tOp, tCB, tCons, tNil, tTup, tLst, tIf, tAnd, tOr, tNot, cTest, cTru, oTru, cAnd, cOr, cNot, cUn, cChain, gName, cTupG, gCons, gNil, gSub, oLt, oLtK, oLe, oGt, oGe, oGtK, oGeK, oBor, oIs, oIsNot, oSub, oMul, oFdiv, oMod, oPow, cPar, cPar3, cAug, tDNewK, cCall, cAttr, frzE, List.mem_singleton, List.lookup_cons_self, List.getElem?_cons_zero, List.getElem?_cons_succ, List.set_cons_zero, List.set_cons_succ, Option.some.injEq, reduceCtorEq, if_true, if_false, Bool.true_eq_false, Bool.false_eq_true, decide_eq_true_eq, ite_true, ite_false, ↓reduceIte, List.length_cons, List.length_nil, true_and, and_true, exists_eq_left', exists_eq_left, List.cons.injEq]
  rw [ix_lst (look_of_lst e) (v := .int a) rfl]
  try simp only [tSeq, tIfS, tNext, tRet, tRetN, tDrop, tAsg, tC, cVar, tOp, tCB, tCons, tNil, tTup, tLst, tIf, tAnd, tOr, tNot, cTest, cTru, oTru, cAnd, cOr, cNot, cUn, cChain, gName, cTupG, gCons, gNil, gSub, oLt, oLtK, oLe, oGt, oGe, oGtK, oGeK, oBor, oIs, oIsNot, oSub, oMul, oFdiv, oMod, oPow, cPar, cPar3, cAug, tDNewK, cCall, cAttr, frzE, List.mem_singleton, List.lookup_cons_self, List.getElem?_cons_zero, List.getElem?_cons_succ, List.set_cons_zero, List.set_cons_succ, Option.some.injEq, reduceCtorEq, if_true, if_false, Bool.true_eq_false, Bool.false_eq_true, decide_eq_true_eq, ite_true, ite_false, ↓reduceIte, List.length_cons, List.length_nil, true_and, and_true, exists_eq_left', exists_eq_left, List.cons.injEq]
  by_cases az : 0 < a
  · rw [if_pos az]
    refine hA _ (seq_ fun N2 g2 => ?_)
    try simp only [tSeq, tIfS, tNext, tRet, tRetN, tDrop, tAsg, tC, cVar, tOp, tCB, tCons, tNil, tTup, tLst, tIf, tAnd, tOr, tNot, cTest, cTru, oTru, cAnd, cOr, cNot, cUn, cChain, gName, cTupG, gCons, gNil, gSub, oLt, oLtK, oLe, oGt, oGe, oGtK, oGeK, oBor, oIs, oIsNot, oSub, oMul, oFdiv, oMod, oPow, cPar, cPar3, cAug, tDNewK, cCall, cAttr, frzE, List.mem_singleton, List.lookup_cons_self, List.getElem?_cons_zero, List.getElem?_cons_succ, List.set_cons_zero, List.set_cons_succ, Option.some.injEq, reduceCtorEq, if_true, if_false, Bool.true_eq_false, Bool.false_eq_true, decide_eq_true_eq, ite_true, ite_false, ↓reduceIte, List.length_cons, List.length_nil, true_and, and_true, exists_eq_left', exists_eq_left, List.cons.injEq]
    rw [ix_lst (look_of_lst e) (v := .int a) rfl]
    try simp only [tSeq, tIfS, tNext, tRet, tRetN, tDrop, tAsg, tC, cVar, tOp, tCB, tCons, tNil, tTup, tLst, tIf, tAnd, tOr, tNot, cTest, cTru, oTru, cAnd, cOr, cNot, cUn, cChain, gName, cTupG, gCons, gNil, gSub, oLt, oLtK, oLe, oGt, oGe, oGtK, oGeK, oBor, oIs, oIsNot, oSub, oMul, oFdiv, oMod, oPow, cPar, cPar3, cAug, tDNewK, cCall, cAttr, frzE, List.mem_singleton, List.lookup_cons_self, List.getElem?_cons_zero, List.getElem?_cons_succ, List.set_cons_zero, List.set_cons_succ, Option.some.injEq, reduceCtorEq, if_true, if_false, Bool.true_eq_false, Bool.false_eq_true, decide_eq_true_eq, ite_true, ite_false, ↓reduceIte, List.length_cons, List.length_nil, true_and, and_true, exists_eq_left', exists_eq_left, List.cons.injEq]
    refine ⟨by omega, g2 _ _ (seq_ fun N3 g3 => ?_)⟩
    try simp only [tSeq, tIfS, tNext, tRet, tRetN, tDrop, tAsg, tC, cVar, tOp, tCB, tCons, tNil, tTup, tLst, tIf, tAnd, tOr, tNot, cTest, cTru, oTru, cAnd, cOr, cNot, cUn, cChain, gName, cTupG, gCons, gNil, gSub, oLt, oLtK, oLe, oGt, oGe, oGtK, oGeK, oBor, oIs, oIsNot, oSub, oMul, oFdiv, oMod, oPow, cPar, cPar3, cAug, tDNewK, cCall, cAttr, frzE, List.mem_singleton, List.lookup_cons_self, List.getElem?_cons_zero, List.getElem?_cons_succ, List.set_cons_zero, List.set_cons_succ, Option.some.injEq, reduceCtorEq, if_true, if_false, Bool.true_eq_false, Bool.false_eq_true, decide_eq_true_eq, ite_true, ite_false, ↓reduceIte, List.length_cons, List.length_nil, true_and, and_true, exists_eq_left', exists_eq_left, List.cons.injEq]
    rw [ix_lst (look_of_lst e) (v := .int a) rfl]
    try simp only [tSeq, tIfS, tNext, tRet, tRetN, tDrop, tAsg, tC, cVar, tOp, tCB, tCons, tNil, tTup, tLst, tIf, tAnd, tOr, tNot, cTest, cTru, oTru, cAnd, cOr, cNot, cUn, cChain, gName, cTupG, gCons, gNil, gSub, oLt, oLtK, oLe, oGt, oGe, oGtK, oGeK, oBor, oIs, oIsNot, oSub, oMul, oFdiv, oMod, oPow, cPar, cPar3, cAug, tDNewK, cCall, cAttr, frzE, List.mem_singleton, List.lookup_cons_self, List.getElem?_cons_zero, List.getElem?_cons_succ, List.set_cons_zero, List.set_cons_succ, Option.some.injEq, reduceCtorEq, if_true, if_false, Bool.true_eq_false, Bool.false_eq_true, decide_eq_true_eq, ite_true, ite_false, ↓reduceIte, List.length_cons, List.length_nil, true_and, and_true, exists_eq_left', exists_eq_left, List.cons.injEq]
    refine ⟨cdiv_of (by omega) (by omega), ?_⟩
    simp only [oSet, e, List.length_cons, List.length_nil]
    rw [show ixN (0 + 1 + 1 + 1) 0 = some 0 from rfl]
    refine g3 _ _ ?_
    try simp only [tSeq, tIfS, tNext, tRet, tRetN, tDrop, tAsg, tC, cVar, tOp, tCB, tCons, tNil, tTup, tLst, tIf, tAnd, tOr, tNot, cTest, cTru, oTru, cAnd, cOr, cNot, cUn, cChain, gName, cTupG, gCons, gNil, gSub, oLt, oLtK, oLe, oGt, oGe, oGtK, oGeK, oBor, oIs, oIsNot, oSub, oMul, oFdiv, oMod, oPow, cPar, cPar3, cAug, tDNewK, cCall, cAttr, frzE, List.mem_singleton, List.lookup_cons_self, List.getElem?_cons_zero, List.getElem?_cons_succ, List.set_cons_zero, List.set_cons_succ, Option.some.injEq, reduceCtorEq, if_true, if_false, Bool.true_eq_false, Bool.false_eq_true, decide_eq_true_eq, ite_true, ite_false, ↓reduceIte, List.length_cons, List.length_nil, true_and, and_true, exists_eq_left', exists_eq_left, List.cons.injEq]
    have mb := mod_b (a := a) (m := many) (by omega)
    refine h _ _ mb.1 mb.2 ⟨a / many, o, c, by rw [upd_same]; try rfl, Int.ediv_nonneg a0 (by omega), o0, o1, n0, by omega⟩ (Fr.refl.put (by simp))
  · rw [if_neg az]
    refine hB _ (g1 _ _ (seq_ fun N2 g2 => ?_))
    try simp only [tSeq, tIfS, tNext, tRet, tRetN, tDrop, tAsg, tC, cVar, tOp, tCB, tCons, tNil, tTup, tLst, tIf, tAnd, tOr, tNot, cTest, cTru, oTru, cAnd, cOr, cNot, cUn, cChain, gName, cTupG, gCons, gNil, gSub, oLt, oLtK, oLe, oGt, oGe, oGtK, oGeK, oBor, oIs, oIsNot, oSub, oMul, oFdiv, oMod, oPow, cPar, cPar3, cAug, tDNewK, cCall, cAttr, frzE, List.mem_singleton, List.lookup_cons_self, List.getElem?_cons_zero, List.getElem?_cons_succ, List.set_cons_zero, List.set_cons_succ, Option.some.injEq, reduceCtorEq, if_true, if_false, Bool.true_eq_false, Bool.false_eq_true, decide_eq_true_eq, ite_true, ite_false, ↓reduceIte, List.length_cons, List.length_nil, true_and, and_true, exists_eq_left', exists_eq_left, List.cons.injEq]
    rw [ix_lst (look_of_lst e) (v := .int c) rfl]
    simp only [oAdd, oSet, e, tSeq, tIfS, tNext, tRet, tRetN, tDrop, tAsg, tC, cVar, tOp, tCB, tCons, tNil, tTup, tLst, tIf, tAnd, tOr, tNot, cTest, cTru, oTru, cAnd, cOr, cNot, cUn, cChain, gName, cTupG, gCons, gNil, gSub, oLt, oLtK, oLe, oGt, oGe, oGtK, oGeK, oBor, oIs, oIsNot, oSub, oMul, oFdiv, oMod, oPow, cPar, cPar3, cAug, tDNewK, cCall, cAttr, frzE, List.mem_singleton, List.lookup_cons_self, List.getElem?_cons_zero, List.getElem?_cons_succ, List.set_cons_zero, List.set_cons_succ, Option.some.injEq, reduceCtorEq, if_true, if_false, Bool.true_eq_false, Bool.false_eq_true, decide_eq_true_eq, ite_true, ite_false, ↓reduceIte, List.length_cons, List.length_nil, true_and, and_true, exists_eq_left', exists_eq_left, List.cons.injEq]
    rw [show ixN (0 + 1 + 1 + 1) 2 = some 2 from rfl]
    refine g2 _ _ (seq_ fun N3 g3 => ?_)
    have ee : (upd H b (.lst ([V.int a, V.int o, V.int c].set 2 (.int (c + 1))))) b = some (.lst [.int a, .int o, .int (c + 1)]) := by rw [upd_same]; try rfl
    have fr : Fr [b] H (upd H b (.lst ([V.int a, V.int o, V.int c].set 2 (.int (c + 1))))) := Fr.refl.put (by simp)
    generalize upd H b (.lst ([V.int a, V.int o, V.int c].set 2 (.int (c + 1)))) = H2 at ee fr ⊢
    obtain ⟨C, hC⟩ : ∃ C, C = c + 1 := ⟨_, rfl⟩
    rw [← hC] at ee
    have q1 := mul_lt (a := k1) (b := C) (x := 2 ^ 30) (y := 2 ^ 17) (by omega) (by omega) (by omega) (by omega)
    have q2 := mul_lt (a := k2) (b := C) (x := 2 ^ 28) (y := 2 ^ 17) (by omega) (by omega) (by omega) (by omega)
    have q3 := mul_lt (a := k2 * C) (b := C) (x := 2 ^ 28 * 2 ^ 17) (y := 2 ^ 17) (by omega) (by omega) (by omega) (by omega)
    try simp only [tSeq, tIfS, tNext, tRet, tRetN, tDrop, tAsg, tC, cVar, tOp, tCB, tCons, tNil, tTup, tLst, tIf, tAnd, tOr, tNot, cTest, cTru, oTru, cAnd, cOr, cNot, cUn, cChain, gName, cTupG, gCons, gNil, gSub, oLt, oLtK, oLe, oGt, oGe, oGtK, oGeK, oBor, oIs, oIsNot, oSub, oMul, oFdiv, oMod, oPow, cPar, cPar3, cAug, tDNewK, cCall, cAttr, frzE, List.mem_singleton, List.lookup_cons_self, List.getElem?_cons_zero, List.getElem?_cons_succ, List.set_cons_zero, List.set_cons_succ, Option.some.injEq, reduceCtorEq, if_true, if_false, Bool.true_eq_false, Bool.false_eq_true, decide_eq_true_eq, ite_true, ite_false, ↓reduceIte, List.length_cons, List.length_nil, true_and, and_true, exists_eq_left', exists_eq_left, List.cons.injEq]
    rw [ix_lst (look_of_lst ee) (v := .int o) rfl]
    try simp only [tSeq, tIfS, tNext, tRet, tRetN, tDrop, tAsg, tC, cVar, tOp, tCB, tCons, tNil, tTup, tLst, tIf, tAnd, tOr, tNot, cTest, cTru, oTru, cAnd, cOr, cNot, cUn, cChain, gName, cTupG, gCons, gNil, gSub, oLt, oLtK, oLe, oGt, oGe, oGtK, oGeK, oBor, oIs, oIsNot, oSub, oMul, oFdiv, oMod, oPow, cPar, cPar3, cAug, tDNewK, cCall, cAttr, frzE, List.mem_singleton, List.lookup_cons_self, List.getElem?_cons_zero, List.getElem?_cons_succ, List.set_cons_zero, List.set_cons_succ, Option.some.injEq, reduceCtorEq, if_true, if_false, Bool.true_eq_false, Bool.false_eq_true, decide_eq_true_eq, ite_true, ite_false, ↓reduceIte, List.length_cons, List.length_nil, true_and, and_true, exists_eq_left', exists_eq_left, List.cons.injEq]
    rw [ix_lst (look_of_lst ee) (v := .int C) rfl]
    simp only [oAdd, tSeq, tIfS, tNext, tRet, tRetN, tDrop, tAsg, tC, cVar, tOp, tCB, tCons, tNil, tTup, tLst, tIf, tAnd, tOr, tNot, cTest, cTru, oTru, cAnd, cOr, cNot, cUn, cChain, gName, cTupG, gCons, gNil, gSub, oLt, oLtK, oLe, oGt, oGe, oGtK, oGeK, oBor, oIs, oIsNot, oSub, oMul, oFdiv, oMod, oPow, cPar, cPar3, cAug, tDNewK, cCall, cAttr, frzE, List.mem_singleton, List.lookup_cons_self, List.getElem?_cons_zero, List.getElem?_cons_succ, List.set_cons_zero, List.set_cons_succ, Option.some.injEq, reduceCtorEq, if_true, if_false, Bool.true_eq_false, Bool.false_eq_true, decide_eq_true_eq, ite_true, ite_false, ↓reduceIte, List.length_cons, List.length_nil, true_and, and_true, exists_eq_left', exists_eq_left, List.cons.injEq]
    refine ⟨cmul_of (by omega) (by omega), ⟨by omega, by omega, by omega⟩, by omega, g3 _ _ (seq_ fun N4 g4 => ?_)⟩
    have mb := mod_b (a := (o + k1 * C + s1) ^ e1.toNat) (m := m1) (by omega)
    generalize (o + k1 * C + s1) ^ e1.toNat % m1 = one at mb ⊢
    try simp only [tSeq, tIfS, tNext, tRet, tRetN, tDrop, tAsg, tC, cVar, tOp, tCB, tCons, tNil, tTup, tLst, tIf, tAnd, tOr, tNot, cTest, cTru, oTru, cAnd, cOr, cNot, cUn, cChain, gName, cTupG, gCons, gNil, gSub, oLt, oLtK, oLe, oGt, oGe, oGtK, oGeK, oBor, oIs, oIsNot, oSub, oMul, oFdiv, oMod, oPow, cPar, cPar3, cAug, tDNewK, cCall, cAttr, frzE, List.mem_singleton, List.lookup_cons_self, List.getElem?_cons_zero, List.getElem?_cons_succ, List.set_cons_zero, List.set_cons_succ, Option.some.injEq, reduceCtorEq, if_true, if_false, Bool.true_eq_false, Bool.false_eq_true, decide_eq_true_eq, ite_true, ite_false, ↓reduceIte, List.length_cons, List.length_nil, true_and, and_true, exists_eq_left', exists_eq_left, List.cons.injEq]
    have dv : 0 ≤ one / d1 ∧ one / d1 ≤ one := ⟨Int.ediv_nonneg mb.1 (by omega), Int.ediv_le_self _ mb.1⟩
    refine ⟨cdiv_of (by omega) (by omega), ?_⟩
    rw [ix_lst (look_of_lst ee) (v := .int C) rfl]
    try simp only [tSeq, tIfS, tNext, tRet, tRetN, tDrop, tAsg, tC, cVar, tOp, tCB, tCons, tNil, tTup, tLst, tIf, tAnd, tOr, tNot, cTest, cTru, oTru, cAnd, cOr, cNot, cUn, cChain, gName, cTupG, gCons, gNil, gSub, oLt, oLtK, oLe, oGt, oGe, oGtK, oGeK, oBor, oIs, oIsNot, oSub, oMul, oFdiv, oMod, oPow, cPar, cPar3, cAug, tDNewK, cCall, cAttr, frzE, List.mem_singleton, List.lookup_cons_self, List.getElem?_cons_zero, List.getElem?_cons_succ, List.set_cons_zero, List.set_cons_succ, Option.some.injEq, reduceCtorEq, if_true, if_false, Bool.true_eq_false, Bool.false_eq_true, decide_eq_true_eq, ite_true, ite_false, ↓reduceIte, List.length_cons, List.length_nil, true_and, and_true, exists_eq_left', exists_eq_left, List.cons.injEq]
    refine ⟨cmul_of (by omega) (by omega), ?_⟩
    rw [ix_lst (look_of_lst ee) (v := .int C) rfl]
    simp only [oAdd, tSeq, tIfS, tNext, tRet, tRetN, tDrop, tAsg, tC, cVar, tOp, tCB, tCons, tNil, tTup, tLst, tIf, tAnd, tOr, tNot, cTest, cTru, oTru, cAnd, cOr, cNot, cUn, cChain, gName, cTupG, gCons, gNil, gSub, oLt, oLtK, oLe, oGt, oGe, oGtK, oGeK, oBor, oIs, oIsNot, oSub, oMul, oFdiv, oMod, oPow, cPar, cPar3, cAug, tDNewK, cCall, cAttr, frzE, List.mem_singleton, List.lookup_cons_self, List.getElem?_cons_zero, List.getElem?_cons_succ, List.set_cons_zero, List.set_cons_succ, Option.some.injEq, reduceCtorEq, if_true, if_false, Bool.true_eq_false, Bool.false_eq_true, decide_eq_true_eq, ite_true, ite_false, ↓reduceIte, List.length_cons, List.length_nil, true_and, and_true, exists_eq_left', exists_eq_left, List.cons.injEq]
    refine ⟨cmul_of (by omega) (by omega), ⟨by omega, by omega, by omega⟩, by omega, g4 _ _ ?_⟩
    have mb2 := mod_b (a := (one / d1 + k2 * C * C + s2) ^ e2.toNat) (m := m2) (by omega)
    generalize (one / d1 + k2 * C * C + s2) ^ e2.toNat % m2 = oth at mb2 ⊢
    simp only [oAdd, tSeq, tIfS, tNext, tRet, tRetN, tDrop, tAsg, tC, cVar, tOp, tCB, tCons, tNil, tTup, tLst, tIf, tAnd, tOr, tNot, cTest, cTru, oTru, cAnd, cOr, cNot, cUn, cChain, gName, cTupG, gCons, gNil, gSub, oLt, oLtK, oLe, oGt, oGe, oGtK, oGeK, oBor, oIs, oIsNot, oSub, oMul, oFdiv, oMod, oPow, cPar, cPar3, cAug, tDNewK, cCall, cAttr, frzE, List.mem_singleton, List.lookup_cons_self, List.getElem?_cons_zero, List.getElem?_cons_succ, List.set_cons_zero, List.set_cons_succ, Option.some.injEq, reduceCtorEq, if_true, if_false, Bool.true_eq_false, Bool.false_eq_true, decide_eq_true_eq, ite_true, ite_false, ↓reduceIte, List.length_cons, List.length_nil, true_and, and_true, exists_eq_left', exists_eq_left, List.cons.injEq]
    have dv2 : 0 ≤ oth / d3 ∧ oth / d3 ≤ oth := ⟨Int.ediv_nonneg mb2.1 (by omega), Int.ediv_le_self _ mb2.1⟩
    refine ⟨cdiv_of (by omega) (by omega), cdiv_of (by omega) (by omega), cmul_of (by omega) (by omega), by omega, ?_⟩
    have mb3 := mod_b (a := one / d2 + k3 * (oth / d3)) (m := many) (by omega)
    exact h _ _ mb3.1 mb3.2 ⟨a, o, C, ee, a0, o0, o1, by omega, by omega⟩ fr
def cellR (K : PySem.W.Frag) (g : G) (k s : Int) : TS :=
  (tSeq (tIfS (cTest (tOp oLt (cVar 1) (tCB (bLenG g) (tCons (cVar 0) tNil))))
  (tRet (tOp (oIx K) (cVar 0) (cVar 1)))
  tNext)
  (tRet (tOp (oAdd K) (tOp oMul (tC (.int k)) (cVar 1)) (tC (.int s)))))
theorem cell_ok {g : G} {k s : Int} {a : Addr} {ns : List Int} {j : Nat} {D : Ends} (hg : g.K = K) (hl : look K H a = some (.lst (ns.map V.int))) (hk : 0 ≤ k ∧ k < 2 ^ 32) (hj : j < 2 ^ 32) (h : ∀ c, D.rt (.int c) H) :
    cellR K g k s D [some (.ref a), some (.int j)] H := by
  unfold cellR
  refine seq_ fun N1 g1 => ifS_ fun A B hA hB => ?_
  try simp only [tSeq, tIfS, tNext, tRet, tRetN, tDrop, tAsg, tC, cVar, tOp, tCB, tCons, tNil, tTup, tLst, tIf, tAnd, tOr, tNot, cTest, cTru, oTru, cAnd, cOr, cNot, cUn, cChain, gName, cTupG, gCons, gNil, gSub, oLt, oLtK, oLe, oGt, oGe, oGtK, oGeK, oBor, oIs, oIsNot, oSub, oMul, oFdiv, oMod, oPow, cPar, cPar3, cAug, tDNewK, cCall, cAttr, frzE, List.mem_singleton, List.lookup_cons_self, List.getElem?_cons_zero, List.getElem?_cons_succ, List.set_cons_zero, List.set_cons_succ, Option.some.injEq, reduceCtorEq, if_true, if_false, Bool.true_eq_false, Bool.false_eq_true, decide_eq_true_eq, ite_true, ite_false, ↓reduceIte, List.length_cons, List.length_nil, true_and, and_true, exists_eq_left', exists_eq_left, List.cons.injEq]
  rw [len_lst hg hl]
  simp only [tSeq, tIfS, tNext, tRet, tRetN, tDrop, tAsg, tC, cVar, tOp, tCB, tCons, tNil, tTup, tLst, tIf, tAnd, tOr, tNot, cTest, cTru, oTru, cAnd, cOr, cNot, cUn, cChain, gName, cTupG, gCons, gNil, gSub, oLt, oLtK, oLe, oGt, oGe, oGtK, oGeK, oBor, oIs, oIsNot, oSub, oMul, oFdiv, oMod, oPow, cPar, cPar3, cAug, tDNewK, cCall, cAttr, frzE, List.mem_singleton, List.lookup_cons_self, List.getElem?_cons_zero, List.getElem?_cons_succ, List.set_cons_zero, List.set_cons_succ, Option.some.injEq, reduceCtorEq, if_true, if_false, Bool.true_eq_false, Bool.false_eq_true, decide_eq_true_eq, ite_true, ite_false, ↓reduceIte, List.length_cons, List.length_nil, true_and, and_true, exists_eq_left', exists_eq_left, List.cons.injEq, List.length_map]
  by_cases c : j < ns.length
  · rw [if_pos (by exact_mod_cast c)]
    refine hA _ ?_
    simp only [tSeq, tIfS, tNext, tRet, tRetN, tDrop, tAsg, tC, cVar, tOp, tCB, tCons, tNil, tTup, tLst, tIf, tAnd, tOr, tNot, cTest, cTru, oTru, cAnd, cOr, cNot, cUn, cChain, gName, cTupG, gCons, gNil, gSub, oLt, oLtK, oLe, oGt, oGe, oGtK, oGeK, oBor, oIs, oIsNot, oSub, oMul, oFdiv, oMod, oPow, cPar, cPar3, cAug, tDNewK, cCall, cAttr, frzE, List.mem_singleton, List.lookup_cons_self, List.getElem?_cons_zero, List.getElem?_cons_succ, List.set_cons_zero, List.set_cons_succ, Option.some.injEq, reduceCtorEq, if_true, if_false, Bool.true_eq_false, Bool.false_eq_true, decide_eq_true_eq, ite_true, ite_false, ↓reduceIte, List.length_cons, List.length_nil, true_and, and_true, exists_eq_left', exists_eq_left, List.cons.injEq]
    rw [ix_lst hl (v := .int (ns.getD j 0)) (by rw [atI_nat]; simp [c])]
    exact h _
  · rw [if_neg (by exact_mod_cast c)]
    refine hB _ (g1 _ _ ?_)
    simp only [oAdd, tSeq, tIfS, tNext, tRet, tRetN, tDrop, tAsg, tC, cVar, tOp, tCB, tCons, tNil, tTup, tLst, tIf, tAnd, tOr, tNot, cTest, cTru, oTru, cAnd, cOr, cNot, cUn, cChain, gName, cTupG, gCons, gNil, gSub, oLt, oLtK, oLe, oGt, oGe, oGtK, oGeK, oBor, oIs, oIsNot, oSub, oMul, oFdiv, oMod, oPow, cPar, cPar3, cAug, tDNewK, cCall, cAttr, frzE, List.mem_singleton, List.lookup_cons_self, List.getElem?_cons_zero, List.getElem?_cons_succ, List.set_cons_zero, List.set_cons_succ, Option.some.injEq, reduceCtorEq, if_true, if_false, Bool.true_eq_false, Bool.false_eq_true, decide_eq_true_eq, ite_true, ite_false, ↓reduceIte, List.length_cons, List.length_nil, true_and, and_true, exists_eq_left', exists_eq_left, List.cons.injEq]
    exact ⟨cmul_of (by omega) (by omega), h _⟩
def boxR (M : Int) : TS :=
  (tRet (tLst (tCons (tCB (bMax) (tCons (tC (.int 0)) (tCons (tOp oSub (cVar 0) (tOp oPow (tC (.int 10)) (tC (.int 18)))) tNil))) (tCons (tOp oMod (cVar 0) (tC (.int M))) (tCons (tC (.int 0)) tNil)))))
theorem box_ok {M c : Int} {D : Ends} (hM : 0 < M ∧ M < 2 ^ 31) (h : ∀ b H', H b = none → Ex H H' → Bx H' b 0 → D.rt (.ref b) H') : boxR M D [some (.int c)] H := by
  unfold boxR
  simp only [bMax, tSeq, tIfS, tNext, tRet, tRetN, tDrop, tAsg, tC, cVar, tOp, tCB, tCons, tNil, tTup, tLst, tIf, tAnd, tOr, tNot, cTest, cTru, oTru, cAnd, cOr, cNot, cUn, cChain, gName, cTupG, gCons, gNil, gSub, oLt, oLtK, oLe, oGt, oGe, oGtK, oGeK, oBor, oIs, oIsNot, oSub, oMul, oFdiv, oMod, oPow, cPar, cPar3, cAug, tDNewK, cCall, cAttr, frzE, List.mem_singleton, List.lookup_cons_self, List.getElem?_cons_zero, List.getElem?_cons_succ, List.set_cons_zero, List.set_cons_succ, Option.some.injEq, reduceCtorEq, if_true, if_false, Bool.true_eq_false, Bool.false_eq_true, decide_eq_true_eq, ite_true, ite_false, ↓reduceIte, List.length_cons, List.length_nil, true_and, and_true, exists_eq_left', exists_eq_left, List.cons.injEq]
  have mb := mod_b (a := c) (m := M) (by omega)
  refine ⟨⟨by omega, by omega, by omega⟩, by omega, by simp only [sizeLine_eq]; omega, fun b hb => h b _ hb (Ex.refl.new hb) ⟨_, _, _, upd_same, ?_, mb.1, by omega, by omega, by omega⟩⟩
  split <;> omega
theorem in_dI {a : Addr} {kvs : List (Key × V)} {i : Int} {b : Bool} (h : H a = some (.dK kvs)) : oIn K b (.int i) (.ref a) H Q = Q (.bl (b ^^ (valV kvs (.inl i)).isSome)) H := in_dK (k := .inl i) (.inl h)
theorem ix_dI {a : Addr} {kvs : List (Key × V)} {i : Int} {v : V} (h : H a = some (.dK kvs)) (e : valV kvs (.inl i) = some v) : oIx K (.ref a) (.int i) H Q = Q v H := ix_dK (k := .inl i) (.inl h) e.symm
theorem set_dI {a : Addr} {kvs : List (Key × V)} {i : Int} {v : V} {R : Hp → Prop} (h : H a = some (.dK kvs)) (hl : kvs.length < 1000) (q : R (upd H a (.dK (putK kvs (.inl i) v)))) : oSet (.ref a) (.int i) v H R := by
  simp only [oSet, h, keyOf]
  exact ⟨by simp only [sizeLine_eq]; omega, q⟩
theorem lk2 {f g m : Str} {v w : V} (h : (m == f) = false) (h2 : (m == g) = false) : List.lookup m [(f, v), (g, w)] = none := by
  simp [List.lookup, h, h2]
end
end WR

set_option Elab.async false
set_option linter.all false
set_option maxRecDepth 100000
set_option maxHeartbeats 4000000
/-! dicts from names to tuples; what is told in order -/
namespace WR
open PySem PySem.Spec PyProof.Rows L2
section
variable {α : Type} {enc : α → List V}
abbrev RwG (α : Type) := List (Str × α)
def gget (rs : RwG α) (n : Str) : Option α := (rs.find? fun r => decide (r.1 = n)).map (·.2)
def gput (rs : RwG α) (n : Str) (p : α) : RwG α := if (rs.any fun r => decide (r.1 = n)) = true then rs.map (fun r => if r.1 = n then (r.1, p) else r) else rs ++ [(n, p)]
/-- the dict's pairs, each value a tuple -/
def RG (enc : α → List V) (H : Hp) : List (Key × V) → RwG α → Prop
  | [], [] => True
  | (k, v) :: kvs, (n, c) :: rs => k = .inr n ∧ (∃ t, v = .ref t ∧ H t = some (.tup (enc c))) ∧ RG enc H kvs rs
  | _, _ => False
theorem RG.tp {H H' : Hp} (x : Tp H H') : ∀ {kvs : List (Key × V)} {rs : RwG α}, RG enc H kvs rs → RG enc H' kvs rs
  | [], [], _ => trivial
  | [], _ :: _, h => h.elim
  | _ :: _, [], h => h.elim
  | (k, v) :: kvs, (n, c) :: rs, h => ⟨h.1, by obtain ⟨t, e, q⟩ := h.2.1; exact ⟨t, e, x _ _ q⟩, RG.tp x h.2.2⟩
theorem RG.len {H : Hp} : ∀ {kvs : List (Key × V)} {rs : RwG α}, RG enc H kvs rs → kvs.length = rs.length
  | [], [], _ => rfl
  | [], _ :: _, h => h.elim
  | _ :: _, [], h => h.elim
  | (k, v) :: kvs, (n, c) :: rs, h => congrArg Nat.succ (RG.len h.2.2)
theorem RG.keys {H : Hp} : ∀ {kvs : List (Key × V)} {rs : RwG α}, RG enc H kvs rs → keysS kvs = some (rs.map (·.1))
  | [], [], _ => rfl
  | [], _ :: _, h => h.elim
  | _ :: _, [], h => h.elim
  | (k, v) :: kvs, (n, c) :: rs, h => by
    obtain ⟨rfl, _, r⟩ := h
    simp only [keysS, RG.keys r, List.map_cons, Option.map_some]
theorem RG.kmap {H : Hp} : ∀ {kvs : List (Key × V)} {rs : RwG α}, RG enc H kvs rs → (kvs.map fun kv => kV kv.1) = rs.map fun r => V.str r.1
  | [], [], _ => rfl
  | [], _ :: _, h => h.elim
  | _ :: _, [], h => h.elim
  | (k, v) :: kvs, (n, c) :: rs, h => by
    obtain ⟨rfl, _, r⟩ := h
    rw [List.map_cons, List.map_cons, RG.kmap r]; rfl
theorem RG.any {H : Hp} (n : Str) : ∀ {kvs : List (Key × V)} {rs : RwG α}, RG enc H kvs rs → (kvs.any fun kv => decide (kv.1 = .inr n)) = (rs.any fun r => decide (r.1 = n))
  | [], [], _ => rfl
  | [], _ :: _, h => h.elim
  | _ :: _, [], h => h.elim
  | (k, v) :: kvs, (m, c) :: rs, h => by
    obtain ⟨rfl, _, r⟩ := h
    simp only [List.any_cons, RG.any n r, Sum.inr.injEq]
theorem RG.get {H : Hp} (n : Str) : ∀ {kvs : List (Key × V)} {rs : RwG α}, RG enc H kvs rs → (valV kvs (.inr n) = none ∧ gget rs n = none) ∨ ∃ t c, valV kvs (.inr n) = some (.ref t) ∧ gget rs n = some c ∧ H t = some (.tup (enc c))
  | [], [], _ => .inl ⟨rfl, rfl⟩
  | [], _ :: _, h => h.elim
  | _ :: _, [], h => h.elim
  | (k, v) :: kvs, (m, c) :: rs, h => by
    obtain ⟨rfl, ⟨t, rfl, e⟩, r⟩ := h
    by_cases hm : m = n
    · subst hm
      exact .inr ⟨t, c, valV_pos rfl, by simp [gget], e⟩
    · have h1 : ¬ ((Sum.inr m : Key) = Sum.inr n) := fun z => hm (Sum.inr.inj z)
      rcases RG.get n r with ⟨a, b⟩ | ⟨t', c', a, b, d⟩
      · exact .inl ⟨by rw [valV_neg h1]; exact a, by simp [gget, List.find?_cons, hm] at b ⊢; exact b⟩
      · exact .inr ⟨t', c', by rw [valV_neg h1]; exact a, by simp [gget, List.find?_cons, hm] at b ⊢; exact b, d⟩
theorem RG.some {H : Hp} {n : Str} {c : α} {kvs : List (Key × V)} {rs : RwG α} (h : RG enc H kvs rs) (e : gget rs n = some c) : ∃ t, valV kvs (.inr n) = Option.some (.ref t) ∧ H t = Option.some (.tup (enc c)) := by
  rcases h.get n with ⟨_, b⟩ | ⟨t, c', a, b, d⟩
  · rw [e] at b; cases b
  · rw [e] at b; cases b; exact ⟨t, a, d⟩
theorem RG.none {H : Hp} {n : Str} {kvs : List (Key × V)} {rs : RwG α} (h : RG enc H kvs rs) (e : gget rs n = Option.none) : valV kvs (.inr n) = Option.none := by
  rcases h.get n with ⟨a, _⟩ | ⟨t, c', a, b, d⟩
  · exact a
  · rw [e] at b; cases b
theorem RG.isSome {H : Hp} {n : Str} {kvs : List (Key × V)} {rs : RwG α} (h : RG enc H kvs rs) : (valV kvs (.inr n)).isSome = (gget rs n).isSome := by
  rcases h.get n with ⟨a, b⟩ | ⟨t, c', a, b, d⟩
  · rw [a, b]; rfl
  · rw [a, b]; rfl
theorem RG.app {H : Hp} {n : Str} {t : Addr} {c : α} (e : H t = Option.some (.tup (enc c))) : ∀ {kvs : List (Key × V)} {rs : RwG α}, RG enc H kvs rs → RG enc H (kvs ++ [(.inr n, .ref t)]) (rs ++ [(n, c)])
  | [], [], _ => ⟨rfl, ⟨t, rfl, e⟩, trivial⟩
  | [], _ :: _, h => h.elim
  | _ :: _, [], h => h.elim
  | (k, v) :: kvs, (m, c') :: rs, h => ⟨h.1, h.2.1, RG.app e h.2.2⟩
theorem RG.map {H : Hp} {n : Str} {t : Addr} {c : α} (e : H t = Option.some (.tup (enc c))) : ∀ {kvs : List (Key × V)} {rs : RwG α}, RG enc H kvs rs → RG enc H (kvs.map fun kv => if kv.1 = .inr n then (kv.1, V.ref t) else kv) (rs.map fun r => if r.1 = n then (r.1, c) else r)
  | [], [], _ => trivial
  | [], _ :: _, h => h.elim
  | _ :: _, [], h => h.elim
  | (k, v) :: kvs, (m, c') :: rs, h => by
    obtain ⟨rfl, q, r⟩ := h
    by_cases hm : m = n
    · simp only [List.map_cons, Sum.inr.injEq, hm, if_true]
      exact ⟨rfl, ⟨t, rfl, e⟩, RG.map e r⟩
    · simp only [List.map_cons, Sum.inr.injEq, hm, if_false]
      exact ⟨rfl, q, RG.map e r⟩
theorem RG.put {H : Hp} {n : Str} {t : Addr} {c : α} {kvs : List (Key × V)} {rs : RwG α} (e : H t = Option.some (.tup (enc c))) (h : RG enc H kvs rs) : RG enc H (putK kvs (.inr n) (.ref t)) (gput rs n c) := by
  unfold putK gput
  rw [RG.any n h]
  split
  · exact RG.map e h
  · exact RG.app e h
theorem gput_len (rs : RwG α) (n : Str) (p : α) : (gput rs n p).length ≤ rs.length + 1 := by
  unfold gput; split <;> simp
theorem gput_snoc {rs : RwG α} {s : Str} {p : α} (h : ∀ r ∈ rs, r.1 ≠ s) : gput rs s p = rs ++ [(s, p)] := by
  unfold gput
  rw [if_neg]
  simp only [List.any_eq_true, decide_eq_true_eq, not_exists, not_and]
  exact h
theorem gget_in {rs : RwG α} {s : Str} {p : α} (h : gget rs s = some p) : (s, p) ∈ rs := by
  unfold gget at h
  cases q : rs.find? fun r => decide (r.1 = s) with
  | none => rw [q] at h; cases h
  | some r =>
    rw [q] at h
    have h1 := List.mem_of_find?_eq_some q
    have h2 := List.find?_some q
    simp only [decide_eq_true_eq] at h2
    cases h
    rw [← h2]; exact h1
theorem gget_mem {rs : RwG α} {s : Str} (h : s ∈ rs.map (·.1)) : ∃ p, gget rs s = some p := by
  obtain ⟨r, hr, e⟩ := List.mem_map.mp h
  unfold gget
  cases q : rs.find? fun r => decide (r.1 = s) with
  | none =>
    have := List.find?_eq_none.mp q r hr
    simp [e] at this
  | some r' => exact ⟨r'.2, rfl⟩
theorem gget_no {rs : RwG α} {s : Str} (h : gget rs s = none) : s ∉ rs.map (·.1) := fun m => by
  obtain ⟨p, e⟩ := gget_mem m
  rw [h] at e; cases e
theorem gget_nd {rs : RwG α} {s : Str} {p : α} (nd : (rs.map (·.1)).Nodup) (h : (s, p) ∈ rs) : gget rs s = some p := by
  induction rs with
  | nil => cases h
  | cons r rs ih =>
    rw [List.map_cons, List.nodup_cons] at nd
    rcases List.mem_cons.mp h with rfl | h
    · simp [gget]
    · have : r.1 ≠ s := fun e => nd.1 (by rw [e]; exact List.mem_map_of_mem (f := (·.1)) h)
      have := ih nd.2 h
      simp [gget, List.find?_cons, *] at this ⊢
      exact this
theorem gput_get {rs : RwG α} {s n : Str} {p : α} : gget (gput rs s p) n = if n = s then some p else gget rs n := by
  by_cases h : (rs.any fun r => decide (r.1 = s)) = true
  · have e : gput rs s p = rs.map (fun r => if r.1 = s then (r.1, p) else r) := by unfold gput; rw [if_pos h]
    rw [e]
    have key : ∀ l : RwG α, gget (l.map (fun r => if r.1 = s then (r.1, p) else r)) n = if n = s then (if (l.any fun r => decide (r.1 = s)) = true then some p else none) else gget l n := by
      intro l
      induction l with
      | nil => by_cases z : n = s <;> simp [gget, z]
      | cons r l ih =>
        by_cases hr : r.1 = s
        · by_cases hn : n = s
          · simp [gget, List.find?_cons, hr, hn]
          · have h2 : ¬ s = n := fun z => hn z.symm
            simp only [gget, List.map_cons, hr, if_true, List.find?_cons, h2, decide_false, hn, if_false] at ih ⊢
            exact ih
        · by_cases hn : n = s
          · have h2 : ¬ r.1 = n := fun z => hr (by rw [z, hn])
            subst hn
            simp only [gget, List.map_cons, hr, if_false, List.find?_cons, decide_false, if_true, List.any_cons, Bool.false_or] at ih ⊢
            exact ih
          · simp only [gget, List.map_cons, hr, if_false, List.find?_cons, hn] at ih ⊢
            by_cases h3 : r.1 = n
            · simp [h3]
            · simp only [h3, decide_false]
              exact ih
    rw [key, h]
    simp
  · have e : gput rs s p = rs ++ [(s, p)] := by unfold gput; rw [if_neg h]
    rw [e]
    have no : ∀ r ∈ rs, r.1 ≠ s := by
      intro r hr z
      exact h (List.any_eq_true.mpr ⟨r, hr, by simpa using z⟩)
    unfold gget
    rw [List.find?_append]
    by_cases hn : n = s
    · subst hn
      rw [List.find?_eq_none.mpr (by intro r hr; simpa using no r hr)]
      simp
    · have h2 : ¬ s = n := fun z => hn z.symm
      simp [List.find?_cons, h2, hn]
theorem gput_keys {rs : RwG α} {s : Str} {p : α} : (gput rs s p).map (·.1) = if (rs.any fun r => decide (r.1 = s)) = true then rs.map (·.1) else rs.map (·.1) ++ [s] := by
  unfold gput
  split
  · rw [List.map_map]
    apply List.map_congr_left
    intro r _
    by_cases h : r.1 = s <;> simp [h]
  · simp
theorem gput_nd {rs : RwG α} {s : Str} {p : α} (nd : (rs.map (·.1)).Nodup) : ((gput rs s p).map (·.1)).Nodup := by
  rw [gput_keys]
  split
  · exact nd
  · rename_i h
    rw [List.nodup_append]
    refine ⟨nd, by simp, ?_⟩
    intro a ha b hb
    rw [List.mem_singleton] at hb
    rintro rfl
    subst hb
    obtain ⟨r, hr, e⟩ := List.mem_map.mp ha
    exact h (List.any_eq_true.mpr ⟨r, hr, by simpa using e⟩)
theorem gput_mem {rs : RwG α} {s : Str} {p : α} {r : Str × α} (h : r ∈ gput rs s p) : r ∈ rs ∨ r = (s, p) := by
  unfold gput at h
  split at h
  · obtain ⟨q, hq, rfl⟩ := List.mem_map.mp h
    by_cases e : q.1 = s
    · right; simp [e]
    · left; simpa [e] using hq
  · rcases List.mem_append.mp h with h | h
    · exact .inl h
    · right; simpa using h
/-- a dict of such rows at d -/
def GAt (enc : α → List V) (H : Hp) (d : Addr) (rs : RwG α) : Prop := ∃ kvs, H d = some (.dK kvs) ∧ RG enc H kvs rs
theorem GAt.ex {H H' : Hp} {d : Addr} {rs : RwG α} (x : Ex H H') (h : GAt enc H d rs) : GAt enc H' d rs := by
  obtain ⟨kvs, e, r⟩ := h
  exact ⟨kvs, x _ _ e, r.tp x.tp⟩
/-- the rows in the order of ys -/
def gordr [Inhabited α] (rs : RwG α) (ys : List Str) : RwG α := ys.map fun s => (s, (gget rs s).getD default)
theorem gordr_keys [Inhabited α] (rs : RwG α) (ys : List Str) : (gordr rs ys).map (·.1) = ys := by
  unfold gordr; rw [List.map_map]; simp [Function.comp_def]
theorem gordr_snoc [Inhabited α] {rs : RwG α} {ys : List Str} {j : Nat} {s : Str} (nd : ys.Nodup) (hj : ys[j]? = some s) : gput (gordr rs (ys.take j)) s ((gget rs s).getD default) = gordr rs (ys.take (j + 1)) := by
  rw [gput_snoc]
  · unfold gordr
    rw [List.take_add_one, hj]
    simp
  · intro r hr e
    have h1 : s ∈ ys.take j := by
      have := List.mem_map_of_mem (f := (·.1)) hr
      rw [gordr_keys] at this
      rw [← e]; exact this
    obtain ⟨i, hi, e1⟩ := List.mem_iff_getElem.mp h1
    have hij : i < j := by have := hi; rw [List.length_take] at this; omega
    have e2 : ys[i]? = some s := by rw [← List.getElem?_take_of_lt hij, List.getElem?_eq_getElem hi, e1]
    have h2 := (List.getElem?_eq_some_iff.mp hj).1
    have h3 := (List.getElem?_eq_some_iff.mp e2).1
    exact absurd (by rw [(List.getElem?_eq_some_iff.mp e2).2, (List.getElem?_eq_some_iff.mp hj).2]) (List.pairwise_iff_getElem.mp nd i j h3 h2 hij)
/-- what a told dict is: the rows in the order of their names -/
def GTold [Inhabited α] (rs ts : RwG α) : Prop := ∃ ys : List Str, ys.Perm (rs.map (·.1)) ∧ sortedS ys = true ∧ ts = gordr rs ys
theorem GTold.uniq [Inhabited α] {rs ts us : RwG α} (h : GTold rs ts) (k : GTold rs us) : ts = us := by
  obtain ⟨ys, h1, h2, rfl⟩ := h
  obtain ⟨zs, k1, k2, rfl⟩ := k
  rw [srt_uniq h1 h2 k1 k2]
theorem GTold.mem [Inhabited α] {rs ts : RwG α} (nd : (rs.map (·.1)).Nodup) (h : GTold rs ts) {r : Str × α} (hr : r ∈ ts) : r ∈ rs := by
  obtain ⟨ys, p1, s1, rfl⟩ := h
  unfold gordr at hr
  obtain ⟨s, hs, rfl⟩ := List.mem_map.mp hr
  obtain ⟨p, e⟩ := gget_mem (p1.mem_iff.mp hs)
  rw [e]; exact gget_in e
theorem GTold.len [Inhabited α] {rs ts : RwG α} (h : GTold rs ts) : ts.length = rs.length := by
  obtain ⟨ys, p1, s1, rfl⟩ := h
  unfold gordr
  rw [List.length_map, p1.length_eq, List.length_map]
end
end WR

set_option Elab.async false
set_option linter.all false
set_option maxRecDepth 100000
set_option maxHeartbeats 4000000
namespace WR
open PySem PySem.Spec PyProof.Rows L2
section
variable {K : PySem.W.Frag} {H H1 H' : Hp} {Q : VK} {E : XK}
/-- a digit of a box: the drawn number's slot i, the digit's slot j -/
def takeR2 (K : PySem.W.Frag) (i j : Nat) (k1 s1 e1 m1 k2 e2 m2 d : Int) : TS :=
  (tSeq (tIfS (cTest (tOp (oGtK K) (tOp (oIx K) (cVar 0) (tC (.int 0))) (tC (.int 0))))
  (tSeq (tAsg (tOp oMod (tOp (oIx K) (cVar 0) (tC (.int 0))) (cVar 1)) (gName j))
  (tSeq (tAsg (tOp oFdiv (tOp (oIx K) (cVar 0) (tC (.int 0))) (cVar 1)) (gSub (cVar 0) (tC (.int 0)) oSet))
  (tRet (cVar j))))
  tNext)
  (tSeq (tAsg (tOp (oAdd K) (tOp (oIx K) (cVar 0) (tC (.int 2))) (tC (.int 1))) (gSub (cVar 0) (tC (.int 2)) oSet))
  (tSeq (tAsg (tOp oMod (tOp oPow (tOp (oAdd K) (tOp (oAdd K) (tOp (oIx K) (cVar 0) (tC (.int 1))) (tOp oMul (tC (.int k1)) (tOp (oIx K) (cVar 0) (tC (.int 2))))) (tC (.int s1))) (tC (.int e1))) (tC (.int m1))) (gName i))
  (tSeq (tAsg (tOp oMod (tOp oPow (tOp (oAdd K) (cVar i) (tOp oMul (tC (.int k2)) (tOp (oIx K) (cVar 0) (tC (.int 2))))) (tC (.int e2))) (tC (.int m2))) (gName i))
  (tRet (tOp oMod (tOp oFdiv (cVar i) (tC (.int d))) (cVar 1)))))))
theorem take2_ok {i j : Nat} {k1 s1 e1 m1 k2 e2 m2 d : Int} {b : Addr} {N : Nat} {many : Int} {D : Ends} (hij : i = 2 ∧ j = 3 ∨ i = 3 ∧ j = 2) (hx : Bx H b N) (hN : N < 100000) (h1 : 1 ≤ many) (h2 : many < 2 ^ 110)
    (c1 : 0 ≤ k1 ∧ k1 < 2 ^ 30) (c2 : 0 ≤ s1 ∧ s1 < 2 ^ 30) (c3 : 0 ≤ e1 ∧ e1 ≤ 10) (c4 : 0 < m1 ∧ m1 < 2 ^ 32) (c6 : 0 ≤ k2 ∧ k2 < 2 ^ 28) (c8 : 0 ≤ e2 ∧ e2 ≤ 10)
    (c9 : 0 < m2 ∧ m2 < 2 ^ 32) (c10 : 0 < d ∧ d < 2 ^ 32)
    (h : ∀ r H', 0 ≤ r → r < many → Bx H' b (N + 1) → Fr [b] H H' → D.rt (.int r) H') : takeR2 K i j k1 s1 e1 m1 k2 e2 m2 d D [some (.ref b), some (.int many), none, none] H := by
  have cdm : ∀ x : Int, CDivW x many := fun x => by
    unfold CDivW
    have : many.natAbs.log2 < 110 := by
      have q : many.natAbs < 2 ^ 110 := by omega
      exact (Nat.log2_lt (by omega)).mpr q
    omega
  obtain ⟨a, o, c, e, a0, o0, o1, n0, n1⟩ := hx
  unfold takeR2
  refine seq_ fun N1 g1 => ifS_ fun A B hA hB => ?_
  simp only [cTest, tOp, cVar, tC, oGtK, List.getElem?_cons_zero]
  rw [ix_lst (look_of_lst e) (v := .int a) rfl]
  rcases hij with ⟨rfl, rfl⟩ | ⟨rfl, rfl⟩
  all_goals
    try simp only [tSeq, tIfS, tNext, tRet, tRetN, tDrop, tAsg, tC, cVar, tOp, tCB, tCons, tNil, tTup, tLst, tIf, tAnd, tOr, tNot, cTest, cTru, oTru, cAnd, cOr, cNot, cUn, cChain, gName, cTupG, gCons, gNil, gSub, oLt, oLtK, oLe, oGt, oGe, oGtK, oGeK, oBor, oIs, oIsNot, oSub, oMul, oFdiv, oMod, oPow, cPar, cPar3, cAug, tDNewK, cCall, cAttr, frzE, List.mem_singleton, List.lookup_cons_self, List.getElem?_cons_zero, List.getElem?_cons_succ, List.set_cons_zero, List.set_cons_succ, Option.some.injEq, reduceCtorEq, if_true, if_false, Bool.true_eq_false, Bool.false_eq_true, decide_eq_true_eq, ite_true, ite_false, ↓reduceIte, List.length_cons, List.length_nil, true_and, and_true, exists_eq_left', exists_eq_left, List.cons.injEq]
    by_cases az : 0 < a
    · simp only [az, decide_true, if_true]
      refine hA _ (seq_ fun N2 g2 => ?_)
      try simp only [tSeq, tIfS, tNext, tRet, tRetN, tDrop, tAsg, tC, cVar, tOp, tCB, tCons, tNil, tTup, tLst, tIf, tAnd, tOr, tNot, cTest, cTru, oTru, cAnd, cOr, cNot, cUn, cChain, gName, cTupG, gCons, gNil, gSub, oLt, oLtK, oLe, oGt, oGe, oGtK, oGeK, oBor, oIs, oIsNot, oSub, oMul, oFdiv, oMod, oPow, cPar, cPar3, cAug, tDNewK, cCall, cAttr, frzE, List.mem_singleton, List.lookup_cons_self, List.getElem?_cons_zero, List.getElem?_cons_succ, List.set_cons_zero, List.set_cons_succ, Option.some.injEq, reduceCtorEq, if_true, if_false, Bool.true_eq_false, Bool.false_eq_true, decide_eq_true_eq, ite_true, ite_false, ↓reduceIte, List.length_cons, List.length_nil, true_and, and_true, exists_eq_left', exists_eq_left, List.cons.injEq]
      rw [ix_lst (look_of_lst e) (v := .int a) rfl]
      try simp only [tSeq, tIfS, tNext, tRet, tRetN, tDrop, tAsg, tC, cVar, tOp, tCB, tCons, tNil, tTup, tLst, tIf, tAnd, tOr, tNot, cTest, cTru, oTru, cAnd, cOr, cNot, cUn, cChain, gName, cTupG, gCons, gNil, gSub, oLt, oLtK, oLe, oGt, oGe, oGtK, oGeK, oBor, oIs, oIsNot, oSub, oMul, oFdiv, oMod, oPow, cPar, cPar3, cAug, tDNewK, cCall, cAttr, frzE, List.mem_singleton, List.lookup_cons_self, List.getElem?_cons_zero, List.getElem?_cons_succ, List.set_cons_zero, List.set_cons_succ, Option.some.injEq, reduceCtorEq, if_true, if_false, Bool.true_eq_false, Bool.false_eq_true, decide_eq_true_eq, ite_true, ite_false, ↓reduceIte, List.length_cons, List.length_nil, true_and, and_true, exists_eq_left', exists_eq_left, List.cons.injEq]
      refine ⟨by omega, g2 _ _ (seq_ fun N3 g3 => ?_)⟩
      try simp only [tSeq, tIfS, tNext, tRet, tRetN, tDrop, tAsg, tC, cVar, tOp, tCB, tCons, tNil, tTup, tLst, tIf, tAnd, tOr, tNot, cTest, cTru, oTru, cAnd, cOr, cNot, cUn, cChain, gName, cTupG, gCons, gNil, gSub, oLt, oLtK, oLe, oGt, oGe, oGtK, oGeK, oBor, oIs, oIsNot, oSub, oMul, oFdiv, oMod, oPow, cPar, cPar3, cAug, tDNewK, cCall, cAttr, frzE, List.mem_singleton, List.lookup_cons_self, List.getElem?_cons_zero, List.getElem?_cons_succ, List.set_cons_zero, List.set_cons_succ, Option.some.injEq, reduceCtorEq, if_true, if_false, Bool.true_eq_false, Bool.false_eq_true, decide_eq_true_eq, ite_true, ite_false, ↓reduceIte, List.length_cons, List.length_nil, true_and, and_true, exists_eq_left', exists_eq_left, List.cons.injEq]
      rw [ix_lst (look_of_lst e) (v := .int a) rfl]
      try simp only [tSeq, tIfS, tNext, tRet, tRetN, tDrop, tAsg, tC, cVar, tOp, tCB, tCons, tNil, tTup, tLst, tIf, tAnd, tOr, tNot, cTest, cTru, oTru, cAnd, cOr, cNot, cUn, cChain, gName, cTupG, gCons, gNil, gSub, oLt, oLtK, oLe, oGt, oGe, oGtK, oGeK, oBor, oIs, oIsNot, oSub, oMul, oFdiv, oMod, oPow, cPar, cPar3, cAug, tDNewK, cCall, cAttr, frzE, List.mem_singleton, List.lookup_cons_self, List.getElem?_cons_zero, List.getElem?_cons_succ, List.set_cons_zero, List.set_cons_succ, Option.some.injEq, reduceCtorEq, if_true, if_false, Bool.true_eq_false, Bool.false_eq_true, decide_eq_true_eq, ite_true, ite_false, ↓reduceIte, List.length_cons, List.length_nil, true_and, and_true, exists_eq_left', exists_eq_left, List.cons.injEq]
      refine ⟨cdm _, ?_⟩
      simp only [oSet, e, List.length_cons, List.length_nil]
      rw [show ixN (0 + 1 + 1 + 1) 0 = some 0 from rfl]
      refine g3 _ _ ?_
      try simp only [tSeq, tIfS, tNext, tRet, tRetN, tDrop, tAsg, tC, cVar, tOp, tCB, tCons, tNil, tTup, tLst, tIf, tAnd, tOr, tNot, cTest, cTru, oTru, cAnd, cOr, cNot, cUn, cChain, gName, cTupG, gCons, gNil, gSub, oLt, oLtK, oLe, oGt, oGe, oGtK, oGeK, oBor, oIs, oIsNot, oSub, oMul, oFdiv, oMod, oPow, cPar, cPar3, cAug, tDNewK, cCall, cAttr, frzE, List.mem_singleton, List.lookup_cons_self, List.getElem?_cons_zero, List.getElem?_cons_succ, List.set_cons_zero, List.set_cons_succ, Option.some.injEq, reduceCtorEq, if_true, if_false, Bool.true_eq_false, Bool.false_eq_true, decide_eq_true_eq, ite_true, ite_false, ↓reduceIte, List.length_cons, List.length_nil, true_and, and_true, exists_eq_left', exists_eq_left, List.cons.injEq]
      have mb := mod_b (a := a) (m := many) (by omega)
      refine h _ _ mb.1 mb.2 ⟨a / many, o, c, by rw [upd_same]; try rfl, Int.ediv_nonneg a0 (by omega), o0, o1, n0, by omega⟩ (Fr.refl.put (by simp))
    · simp only [az, decide_false, Bool.false_eq_true, if_false]
      refine hB _ (g1 _ _ (seq_ fun N2 g2 => ?_))
      try simp only [tSeq, tIfS, tNext, tRet, tRetN, tDrop, tAsg, tC, cVar, tOp, tCB, tCons, tNil, tTup, tLst, tIf, tAnd, tOr, tNot, cTest, cTru, oTru, cAnd, cOr, cNot, cUn, cChain, gName, cTupG, gCons, gNil, gSub, oLt, oLtK, oLe, oGt, oGe, oGtK, oGeK, oBor, oIs, oIsNot, oSub, oMul, oFdiv, oMod, oPow, cPar, cPar3, cAug, tDNewK, cCall, cAttr, frzE, List.mem_singleton, List.lookup_cons_self, List.getElem?_cons_zero, List.getElem?_cons_succ, List.set_cons_zero, List.set_cons_succ, Option.some.injEq, reduceCtorEq, if_true, if_false, Bool.true_eq_false, Bool.false_eq_true, decide_eq_true_eq, ite_true, ite_false, ↓reduceIte, List.length_cons, List.length_nil, true_and, and_true, exists_eq_left', exists_eq_left, List.cons.injEq]
      rw [ix_lst (look_of_lst e) (v := .int c) rfl]
      simp only [oAdd, oSet, e, tSeq, tIfS, tNext, tRet, tRetN, tDrop, tAsg, tC, cVar, tOp, tCB, tCons, tNil, tTup, tLst, tIf, tAnd, tOr, tNot, cTest, cTru, oTru, cAnd, cOr, cNot, cUn, cChain, gName, cTupG, gCons, gNil, gSub, oLt, oLtK, oLe, oGt, oGe, oGtK, oGeK, oBor, oIs, oIsNot, oSub, oMul, oFdiv, oMod, oPow, cPar, cPar3, cAug, tDNewK, cCall, cAttr, frzE, List.mem_singleton, List.lookup_cons_self, List.getElem?_cons_zero, List.getElem?_cons_succ, List.set_cons_zero, List.set_cons_succ, Option.some.injEq, reduceCtorEq, if_true, if_false, Bool.true_eq_false, Bool.false_eq_true, decide_eq_true_eq, ite_true, ite_false, ↓reduceIte, List.length_cons, List.length_nil, true_and, and_true, exists_eq_left', exists_eq_left, List.cons.injEq]
      rw [show ixN (0 + 1 + 1 + 1) 2 = some 2 from rfl]
      refine g2 _ _ (seq_ fun N3 g3 => ?_)
      have ee : (upd H b (.lst ([V.int a, V.int o, V.int c].set 2 (.int (c + 1))))) b = some (.lst [.int a, .int o, .int (c + 1)]) := by rw [upd_same]; try rfl
      have fr : Fr [b] H (upd H b (.lst ([V.int a, V.int o, V.int c].set 2 (.int (c + 1))))) := Fr.refl.put (by simp)
      generalize upd H b (.lst ([V.int a, V.int o, V.int c].set 2 (.int (c + 1)))) = H2 at ee fr ⊢
      obtain ⟨C, hC⟩ : ∃ C, C = c + 1 := ⟨_, rfl⟩
      rw [← hC] at ee
      have q1 := mul_lt (a := k1) (b := C) (x := 2 ^ 30) (y := 2 ^ 17) (by omega) (by omega) (by omega) (by omega)
      have q2 := mul_lt (a := k2) (b := C) (x := 2 ^ 28) (y := 2 ^ 17) (by omega) (by omega) (by omega) (by omega)
      try simp only [tSeq, tIfS, tNext, tRet, tRetN, tDrop, tAsg, tC, cVar, tOp, tCB, tCons, tNil, tTup, tLst, tIf, tAnd, tOr, tNot, cTest, cTru, oTru, cAnd, cOr, cNot, cUn, cChain, gName, cTupG, gCons, gNil, gSub, oLt, oLtK, oLe, oGt, oGe, oGtK, oGeK, oBor, oIs, oIsNot, oSub, oMul, oFdiv, oMod, oPow, cPar, cPar3, cAug, tDNewK, cCall, cAttr, frzE, List.mem_singleton, List.lookup_cons_self, List.getElem?_cons_zero, List.getElem?_cons_succ, List.set_cons_zero, List.set_cons_succ, Option.some.injEq, reduceCtorEq, if_true, if_false, Bool.true_eq_false, Bool.false_eq_true, decide_eq_true_eq, ite_true, ite_false, ↓reduceIte, List.length_cons, List.length_nil, true_and, and_true, exists_eq_left', exists_eq_left, List.cons.injEq]
      rw [ix_lst (look_of_lst ee) (v := .int o) rfl]
      try simp only [tSeq, tIfS, tNext, tRet, tRetN, tDrop, tAsg, tC, cVar, tOp, tCB, tCons, tNil, tTup, tLst, tIf, tAnd, tOr, tNot, cTest, cTru, oTru, cAnd, cOr, cNot, cUn, cChain, gName, cTupG, gCons, gNil, gSub, oLt, oLtK, oLe, oGt, oGe, oGtK, oGeK, oBor, oIs, oIsNot, oSub, oMul, oFdiv, oMod, oPow, cPar, cPar3, cAug, tDNewK, cCall, cAttr, frzE, List.mem_singleton, List.lookup_cons_self, List.getElem?_cons_zero, List.getElem?_cons_succ, List.set_cons_zero, List.set_cons_succ, Option.some.injEq, reduceCtorEq, if_true, if_false, Bool.true_eq_false, Bool.false_eq_true, decide_eq_true_eq, ite_true, ite_false, ↓reduceIte, List.length_cons, List.length_nil, true_and, and_true, exists_eq_left', exists_eq_left, List.cons.injEq]
      rw [ix_lst (look_of_lst ee) (v := .int C) rfl]
      simp only [oAdd, tSeq, tIfS, tNext, tRet, tRetN, tDrop, tAsg, tC, cVar, tOp, tCB, tCons, tNil, tTup, tLst, tIf, tAnd, tOr, tNot, cTest, cTru, oTru, cAnd, cOr, cNot, cUn, cChain, gName, cTupG, gCons, gNil, gSub, oLt, oLtK, oLe, oGt, oGe, oGtK, oGeK, oBor, oIs, oIsNot, oSub, oMul, oFdiv, oMod, oPow, cPar, cPar3, cAug, tDNewK, cCall, cAttr, frzE, List.mem_singleton, List.lookup_cons_self, List.getElem?_cons_zero, List.getElem?_cons_succ, List.set_cons_zero, List.set_cons_succ, Option.some.injEq, reduceCtorEq, if_true, if_false, Bool.true_eq_false, Bool.false_eq_true, decide_eq_true_eq, ite_true, ite_false, ↓reduceIte, List.length_cons, List.length_nil, true_and, and_true, exists_eq_left', exists_eq_left, List.cons.injEq]
      refine ⟨cmul_of (by omega) (by omega), ⟨by omega, by omega, by omega⟩, by omega, g3 _ _ (seq_ fun N4 g4 => ?_)⟩
      have mb := mod_b (a := (o + k1 * C + s1) ^ e1.toNat) (m := m1) (by omega)
      generalize (o + k1 * C + s1) ^ e1.toNat % m1 = one at mb ⊢
      try simp only [tSeq, tIfS, tNext, tRet, tRetN, tDrop, tAsg, tC, cVar, tOp, tCB, tCons, tNil, tTup, tLst, tIf, tAnd, tOr, tNot, cTest, cTru, oTru, cAnd, cOr, cNot, cUn, cChain, gName, cTupG, gCons, gNil, gSub, oLt, oLtK, oLe, oGt, oGe, oGtK, oGeK, oBor, oIs, oIsNot, oSub, oMul, oFdiv, oMod, oPow, cPar, cPar3, cAug, tDNewK, cCall, cAttr, frzE, List.mem_singleton, List.lookup_cons_self, List.getElem?_cons_zero, List.getElem?_cons_succ, List.set_cons_zero, List.set_cons_succ, Option.some.injEq, reduceCtorEq, if_true, if_false, Bool.true_eq_false, Bool.false_eq_true, decide_eq_true_eq, ite_true, ite_false, ↓reduceIte, List.length_cons, List.length_nil, true_and, and_true, exists_eq_left', exists_eq_left, List.cons.injEq]
      rw [ix_lst (look_of_lst ee) (v := .int C) rfl]
      simp only [oAdd, tSeq, tIfS, tNext, tRet, tRetN, tDrop, tAsg, tC, cVar, tOp, tCB, tCons, tNil, tTup, tLst, tIf, tAnd, tOr, tNot, cTest, cTru, oTru, cAnd, cOr, cNot, cUn, cChain, gName, cTupG, gCons, gNil, gSub, oLt, oLtK, oLe, oGt, oGe, oGtK, oGeK, oBor, oIs, oIsNot, oSub, oMul, oFdiv, oMod, oPow, cPar, cPar3, cAug, tDNewK, cCall, cAttr, frzE, List.mem_singleton, List.lookup_cons_self, List.getElem?_cons_zero, List.getElem?_cons_succ, List.set_cons_zero, List.set_cons_succ, Option.some.injEq, reduceCtorEq, if_true, if_false, Bool.true_eq_false, Bool.false_eq_true, decide_eq_true_eq, ite_true, ite_false, ↓reduceIte, List.length_cons, List.length_nil, true_and, and_true, exists_eq_left', exists_eq_left, List.cons.injEq]
      refine ⟨cmul_of (by omega) (by omega), ⟨by omega, by omega, by omega⟩, by omega, g4 _ _ ?_⟩
      have mb2 := mod_b (a := (one + k2 * C) ^ e2.toNat) (m := m2) (by omega)
      generalize (one + k2 * C) ^ e2.toNat % m2 = oth at mb2 ⊢
      try simp only [tSeq, tIfS, tNext, tRet, tRetN, tDrop, tAsg, tC, cVar, tOp, tCB, tCons, tNil, tTup, tLst, tIf, tAnd, tOr, tNot, cTest, cTru, oTru, cAnd, cOr, cNot, cUn, cChain, gName, cTupG, gCons, gNil, gSub, oLt, oLtK, oLe, oGt, oGe, oGtK, oGeK, oBor, oIs, oIsNot, oSub, oMul, oFdiv, oMod, oPow, cPar, cPar3, cAug, tDNewK, cCall, cAttr, frzE, List.mem_singleton, List.lookup_cons_self, List.getElem?_cons_zero, List.getElem?_cons_succ, List.set_cons_zero, List.set_cons_succ, Option.some.injEq, reduceCtorEq, if_true, if_false, Bool.true_eq_false, Bool.false_eq_true, decide_eq_true_eq, ite_true, ite_false, ↓reduceIte, List.length_cons, List.length_nil, true_and, and_true, exists_eq_left', exists_eq_left, List.cons.injEq]
      refine ⟨cdiv_of (by omega) (by omega), by omega, ?_⟩
      have mb3 := mod_b (a := oth / d) (m := many) (by omega)
      exact h _ _ mb3.1 mb3.2 ⟨a, o, C, ee, a0, o0, o1, by omega, by omega⟩ fr
end
end WR

set_option Elab.async false
set_option linter.all false
set_option maxRecDepth 100000
set_option maxHeartbeats 4000000
/-! steps of readings, by name: what comes behind stays a hole -/
namespace WR
open PySem PySem.Spec PyProof.Rows L2
section
variable {K : PySem.W.Frag} {H H1 H' : Hp} {Q : VK} {E : XK} {σ : L2.St} {D : Ends} {x y : V} {i : Nat}
theorem var_ {x : V} (h : σ[i]? = some (some x)) (q : Q x H) : cVar i σ H Q := by
  simp only [cVar, h]; exact q
theorem const_ {x : V} (q : Q x H) : tC x σ H Q := q
theorem call_ {sp : Sp} {n m : Nat} {arr : List V → List V → List V} {t tk : TA} {W : WX} (h : t σ H fun vs H1 => tk σ H1 fun zs H2 => vs.length = n ∧ zs.length = m ∧ sp (arr vs zs) H2 Q (fun cls d H' => W cls d σ H')) : cCall sp n m arr t tk W σ H Q := h
theorem cons_ {t : TE} {ts : TA} {R : List V → Hp → Prop} (h : t σ H fun x H1 => ts σ H1 fun xs H2 => R (x :: xs) H2) : tCons t ts σ H R := h
theorem con_ {x : V} {t : TA} {R : List V → Hp → Prop} (h : t σ H fun xs H1 => R (x :: xs) H1) : tCons (tC x) t σ H R := h
theorem cva_ {x : V} {t : TA} {R : List V → Hp → Prop} (e : σ[i]? = some (some x)) (h : t σ H fun xs H1 => R (x :: xs) H1) : tCons (cVar i) t σ H R := cons_ (var_ e h)
theorem nil_ {R : List V → Hp → Prop} (h : R [] H) : tNil σ H R := h
theorem op_ {r : R2} {ta tb : TE} (h : ta σ H fun x H1 => tb σ H1 fun y H2 => r x y H2 Q) : tOp r ta tb σ H Q := h
theorem cb_ {r : RC} {t : TA} (h : t σ H fun xs H1 => r xs H1 Q) : tCB r t σ H Q := h
theorem asg_ {te : TE} (h : te σ H fun x H1 => D.nx (σ.set i (some x)) H1) : tAsg te (gName i) D σ H := h
theorem ret_ {te : TE} (h : te σ H fun x H1 => D.rt x H1) : tRet te D σ H := h
theorem drop_ {te : TE} (h : te σ H fun _ H1 => D.nx σ H1) : tDrop te D σ H := h
theorem next_ (h : D.nx σ H) : tNext D σ H := h
theorem yes_ {R : Bool → Hp → Prop} (h : R true H) : tYes σ H R := h
end
end WR

set_option Elab.async false
set_option linter.all false
set_option maxRecDepth 100000
set_option maxHeartbeats 4000000
namespace WR
open PySem PySem.Spec PyProof.Rows L2
open PySem.W (alike alikeAll dataLt dataLe AllAlike Sortable)
/-! ## what stays where lambdas are made -/
/-- all but the tables and l stays; the tables stay tables -/
structure Xt (T : List (Addr × Str)) (l : List Addr) (H H' : Hp) : Prop where
  keep : ∀ a o, a ∉ l → H a = some o → (∀ ps, o ≠ .tbl ps) → H' a = some o
  tab : LamX.Tabs T H → LamX.Tabs T H'
section
variable {K : PySem.W.Frag} {T : List (Addr × Str)} {l m : List Addr} {H H1 H' : Hp} {a p : Addr} {o u : HO}
theorem Xt.refl : Xt T l H H := ⟨fun _ _ _ e _ => e, id⟩
theorem Xt.trans (x : Xt T l H H1) (z : Xt T l H1 H') : Xt T l H H' := ⟨fun a o n e k => z.keep a o n (x.keep a o n e k) k, fun t => z.tab (x.tab t)⟩
theorem Xt.mono (x : Xt T l H H') (h : ∀ a ∈ l, a ∈ m) : Xt T m H H' := ⟨fun a o n e k => x.keep a o (fun z => n (h a z)) e k, x.tab⟩
theorem Xt.up (x : Xt T [] H H') : Xt T l H H' := x.mono fun a h => nomatch h
theorem Xt.ex (x : Ex H H') : Xt T l H H' := ⟨fun a o _ e _ => x a o e, fun t => t.ext x⟩
theorem Xt.extN (x : LamX.ExtN H H') (t : LamX.Tabs T H') : Xt T l H H' := ⟨fun a o _ e k => x a o e k, fun _ => t⟩
/-- what is no table and no code object -/
def Pln (o : Option HO) : Prop := ∀ u, o = some u → (∀ ps, u ≠ .tbl ps) ∧ ∀ c q, u ≠ LamX.CodeO c q
theorem pln_none : Pln none := fun _ h => nomatch h
theorem pln_lst {xs : List V} : Pln (some (.lst xs)) := fun _ h => by cases h; exact ⟨(fun _ z => nomatch z), fun _ _ z => (nomatch (show _ = HO.ext _ from z))⟩
theorem pln_dK {xs : List (Key × V)} : Pln (some (.dK xs)) := fun _ h => by cases h; exact ⟨(fun _ z => nomatch z), fun _ _ z => (nomatch (show _ = HO.ext _ from z))⟩
theorem pln_ins {C dx : Addr} {fs : List (Str × V)} : Pln (some (.ins C dx fs)) := fun _ h => by cases h; exact ⟨(fun _ z => nomatch z), fun _ _ z => (nomatch (show _ = HO.ext _ from z))⟩
theorem pln_own {x : Addr} : Pln (some (.own x)) := fun _ h => by cases h; exact ⟨(fun _ z => nomatch z), fun _ _ z => (nomatch (show _ = HO.ext _ from z))⟩
theorem tabs_fr (x : Fr l H H') (hl : ∀ a ∈ l, Pln (H a)) (t : LamX.Tabs T H) : LamX.Tabs T H' := fun p hp => by
  obtain ⟨ps, h1, h2, h3⟩ := t p hp
  refine ⟨ps, x _ _ (fun z => (hl _ z _ h1).1 ps rfl) h1, h2, fun pos cv hc => ?_⟩
  obtain ⟨c, e1, e2⟩ := h3 pos cv hc
  exact ⟨c, e1, x _ _ (fun z => (hl _ z _ e2).2 _ _ rfl) e2⟩
theorem Xt.fr (x : Fr l H H') (hl : ∀ a ∈ l, Pln (H a)) : Xt T l H H' := ⟨fun a o n e _ => x a o n e, tabs_fr x hl⟩
theorem Xt.new (x : Xt T l H H1) (h : H1 p = none) : Xt T l H (upd H1 p o) := x.trans (Xt.ex (Ex.refl.new h))
/-- an object of l, or one that was not there, is written -/
theorem Xt.put (x : Xt T l H H1) (h : a ∈ l ∨ H a = none) (hp : Pln (H1 a)) : Xt T l H (upd H1 a o) := by
  refine ⟨fun b u n e k => ?_, fun t => tabs_fr (l := [a]) (fun b u n e => ?_) (fun b hb => by rw [List.mem_singleton] at hb; subst hb; exact hp) (x.tab t)⟩
  · have nb : b ≠ a := fun z => h.elim (fun h => n (z ▸ h)) fun h => by rw [z, h] at e; cases e
    rw [upd_ne nb]
    exact x.keep b u n e k
  · rw [upd_ne (fun z => n (by rw [z]; exact List.mem_singleton_self _))]
    exact e
theorem Xt.lst (x : Xt T l H H') {xs : List V} (n : a ∉ l) (h : H a = some (.lst xs)) : H' a = some (.lst xs) := x.keep _ _ n h fun _ z => nomatch z
theorem Xt.tup (x : Xt T l H H') {xs : List V} (n : a ∉ l) (h : H a = some (.tup xs)) : H' a = some (.tup xs) := x.keep _ _ n h fun _ z => nomatch z
theorem Xt.dK (x : Xt T l H H') {xs : List (Key × V)} (n : a ∉ l) (h : H a = some (.dK xs)) : H' a = some (.dK xs) := x.keep _ _ n h fun _ z => nomatch z
theorem Xt.ins (x : Xt T l H H') {C dx : Addr} {fs : List (Str × V)} (n : a ∉ l) (h : H a = some (.ins C dx fs)) : H' a = some (.ins C dx fs) := x.keep _ _ n h fun _ z => nomatch z
theorem Xt.frz (x : Xt T l H H') {ob : Obj} {u : HO} (n : a ∉ l) (h : H a = some (.frz ob u)) : H' a = some (.frz ob u) := x.keep _ _ n h fun _ z => nomatch z
theorem exr_eq : ExR (fun a b : Hp => a = b) := ⟨fun _ => rfl, fun h k => h.trans k, fun h b o e _ => h ▸ e⟩
theorem exr_ex : ExR (fun a b : Hp => Ex a b) := ⟨fun _ => Ex.refl, fun h k => h.trans k, fun h b o e _ => h b o e⟩
end
/-! ## more steps by name -/
section
variable {g : G} {K : PySem.W.Frag} {H H1 H' : Hp} {Q : VK} {E : XK} {σ : L2.St} {D : Ends} {x y : V} {i : Nat} {W : WX}
theorem attr_ {p C dx : Addr} {fs : List (Str × V)} {f : Str} {v : V} (hi : σ[i]? = some (some (.ref p))) (hp : H p = some (.ins C dx fs)) (hf : fs.lookup f = some v) (q : Q v H) : cAttr [C] f (cVar i) σ H Q := by
  simp only [cAttr, cVar, hi, insOf, hp, hf, List.mem_singleton, true_and]
  exact q
theorem own_ {m m' : Str} {n n' nk : Nat} {ks ks' : List Str} {t tk : TA} {C : Addr} {arr : List V → List V → List V} {sp : Sp} {p dx : Addr} {fs : List (Str × V)} (hm : mf g m n ks = [⟨C, m', n', ks', arr, sp⟩]) (hi : σ[i]? = some (some (.ref p))) (hp : H p = some (.ins C dx fs)) (hl : fs.lookup m = none)
    (h : t σ H fun vs H2 => tk σ H2 fun zs H3 => vs.length = n ∧ zs.length = nk ∧ sp (.ref p :: arr vs zs) H3 Q (fun cls d H' => W cls d σ H')) : mC g m n nk ks (cVar i) t tk W σ H Q :=
  mC_own hm (var_ hi ⟨p, dx, fs, rfl, hp, hl, h⟩) fun P P' hh q => mono_var hh q
theorem blt_ {m m' T T' id : String} {n : Nat} {ks : List Str} {t tk : TA} {r : V → List V → Hp → VK → Prop} (hi : σ[i]? = some (some x)) (h0 : insOf H x = none) (hT : tyB g.K H x = some T) (hb : (bf g.K (m : Str)).find? (fun b => b.T == T) = some ⟨T', (m' : Str), id, r⟩)
    (h : t σ H fun vs H2 => r x vs H2 Q) : mC g (m : Str) n 0 ks (cVar i) t tk W σ H Q :=
  mC_blt (var_ hi ⟨h0, T, hT, _, hb, h⟩) fun P P' hh q => mono_var hh q
theorem bltC_ {m m' T T' id : String} {n : Nat} {ks : List Str} {t tk : TA} {r : V → List V → Hp → VK → Prop} (h0 : insOf H x = none) (hT : tyB g.K H x = some T) (hb : (bf g.K (m : Str)).find? (fun b => b.T == T) = some ⟨T', (m' : Str), id, r⟩)
    (h : t σ H fun vs H2 => r x vs H2 Q) : mC g (m : Str) n 0 ks (tC x) t tk W σ H Q :=
  mC_blt (const_ ⟨h0, T, hT, _, hb, h⟩) fun P P' hh q => mono_C hh q
theorem seqq_ {t u : TS} (h : t { D with nx := fun σ H => u D σ H } σ H) : tSeq t u D σ H := h
theorem tnot_ {t : TT} {R : Bool → Hp → Prop} (h : t σ H fun b H1 => R (!b) H1) : tNot t σ H R := h
theorem tru_ {te : TE} {R : Bool → Hp → Prop} (h : te σ H fun x H1 => match oTru K x H1 with | some b => R b H1 | none => False) : cTru K te σ H R := h
theorem and_ {ta tb : TT} {R : Bool → Hp → Prop} (h : ta σ H fun b H1 => if b = true then tb σ H1 R else R false H1) : tAnd ta tb σ H R := h
theorem or_ {ta tb : TT} {R : Bool → Hp → Prop} (h : ta σ H fun b H1 => if b = true then R true H1 else tb σ H1 R) : tOr ta tb σ H R := h
end
/-! ## pairs of a number and a text, compared -/
def ltT (s t : Str) : Bool := decide (s.cps.toList < t.cps.toList)
theorem ltT_irr (s : Str) : ltT s s = false := by unfold ltT; rw [decide_eq_false_iff_not]; exact List.lt_irrefl _
theorem lt_pair {i j : Int} {s t : Str} : dataLt (.tuple [.int i, .str s]) (.tuple [.int j, .str t]) = (decide (i < j) || (decide (i = j) && ltT s t)) := by
  rw [PySem.W.dataLt_tuple, PySem.W.dataLt_cons rfl, PySem.W.dataLt_int]
  by_cases hi : i = j
  · subst hi
    rw [if_pos (by simp [PyData.eqv]), PySem.W.dataLt_cons rfl, PySem.W.dataLt_str]
    simp only [Int.lt_irrefl, decide_false, Bool.false_or, decide_true, Bool.true_and]
    by_cases hs : s = t
    · subst hs
      rw [if_pos (by simp [PyData.eqv]), ltT_irr]
      rfl
    · rw [if_neg (by simp [PyData.eqv, hs])]
      rfl
  · rw [if_neg (by simp [PyData.eqv, hi])]
    simp [hi]
end WR

set_option Elab.async false
set_option linter.all false
set_option maxRecDepth 100000
set_option maxHeartbeats 4000000
/-! circles, in plain Lean -/
namespace WR
open PySem PySem.Spec PyProof.Rows L2
/-! ## order -/
theorem ltT_iff {s t : Str} : ltT s t = true ↔ s.cps.toList < t.cps.toList := by unfold ltT; exact decide_eq_true_iff
theorem ltT_trans {a b c : Str} (h : ltT a b = true) (k : ltT b c = true) : ltT a c = true := ltT_iff.mpr (List.lt_trans (ltT_iff.mp h) (ltT_iff.mp k))
theorem ltT_asymm {a b : Str} (h : ltT a b = true) (k : ltT b a = true) : False := by
  have := ltT_trans h k
  rw [ltT_irr] at this
  cases this
theorem ltT_tri {a b : Str} (n : a ≠ b) : ltT a b = true ∨ ltT b a = true := by
  by_cases h : a.cps.toList < b.cps.toList
  · exact .inl (ltT_iff.mpr h)
  · by_cases k : b.cps.toList < a.cps.toList
    · exact .inr (ltT_iff.mpr k)
    · exact absurd (str_ext (List.le_antisymm (List.not_lt.mp k) (List.not_lt.mp h))) n
theorem uniqS {α : Type} {r : α → α → Prop} (as : ∀ a b, r a b → r b a → False) : ∀ {l m : List α}, l.Perm m → l.Pairwise r → m.Pairwise r → l = m
  | [], m, p, _, _ => p.nil_eq
  | x :: l, [], p, _, _ => absurd p.symm.nil_eq (by simp)
  | x :: l, y :: m, p, h, k => by
    rw [List.pairwise_cons] at h k
    have e : x = y := by
      have hx : x ∈ y :: m := p.mem_iff.mp (List.mem_cons_self ..)
      have hy : y ∈ x :: l := p.mem_iff.mpr (List.mem_cons_self ..)
      rcases List.mem_cons.mp hx with e | hx
      · exact e
      · rcases List.mem_cons.mp hy with e | hy
        · exact e.symm
        · exact (as _ _ (k.1 x hx) (h.1 y hy)).elim
    subst e
    rw [uniqS as (List.Perm.cons_inv p) h.2 k.2]
/-! ## circles -/
abbrev Prs := List (Str × Int)
def ltP (a b : Str × Int) : Bool := decide (a.2 < b.2) || (decide (a.2 = b.2) && ltT a.1 b.1)
theorem ltP_iff {a b : Str × Int} : ltP a b = true ↔ a.2 < b.2 ∨ (a.2 = b.2 ∧ ltT a.1 b.1 = true) := by
  unfold ltP
  simp
theorem ltP_asymm {a b : Str × Int} (h : ltP a b = true) (k : ltP b a = true) : False := by
  rw [ltP_iff] at h k
  rcases h with h | ⟨h, h2⟩ <;> rcases k with k | ⟨k, k2⟩
  · omega
  · omega
  · omega
  · exact ltT_asymm h2 k2
def wayI (x p : Int) : Int := (p - x) % 256
theorem wayI_eq {x p : Int} (hx : 0 ≤ x ∧ x < 256) (hp : 0 ≤ p ∧ p < 256) : wayI x p = if x ≤ p then p - x else p - x + 256 := by
  unfold wayI
  split <;> omega
theorem wayI_b {x p : Int} : 0 ≤ wayI x p ∧ wayI x p < 256 := by unfold wayI; omega
def ltD (x : Int) (a b : Str × Int) : Prop := wayI x a.2 < wayI x b.2 ∨ (wayI x a.2 = wayI x b.2 ∧ ltT a.1 b.1 = true)
theorem ltD_asymm {x : Int} {a b : Str × Int} (h : ltD x a b) (k : ltD x b a) : False := by
  unfold ltD at h k
  rcases h with h | ⟨h, h2⟩ <;> rcases k with k | ⟨k, k2⟩
  · omega
  · omega
  · omega
  · exact ltT_asymm h2 k2
/-- a circle's rows: unlike names, places of the ring, in order -/
structure Okp (ps : Prs) : Prop where
  nd : (ps.map (·.1)).Nodup
  pl : ∀ p ∈ ps, 0 ≤ p.2 ∧ p.2 < 256
  st : ps.Pairwise fun a b => ltP a b = true
theorem Okp.lt {ps : Prs} (k : Okp ps) {i j : Nat} {a b : Str × Int} (hi : ps[i]? = some a) (hj : ps[j]? = some b) (h : i < j) : ltP a b = true := by
  obtain ⟨h1, rfl⟩ := List.getElem?_eq_some_iff.mp hi
  obtain ⟨h2, rfl⟩ := List.getElem?_eq_some_iff.mp hj
  exact List.pairwise_iff_getElem.mp k.st i j h1 h2 h
theorem Okp.le {ps : Prs} (k : Okp ps) {i j : Nat} {a b : Str × Int} (hi : ps[i]? = some a) (hj : ps[j]? = some b) (h : i ≤ j) : a.2 ≤ b.2 := by
  by_cases e : i = j
  · subst e
    rw [hi] at hj
    cases hj
    exact Int.le_refl _
  · have := ltP_iff.mp (k.lt hi hj (by omega))
    omega
theorem Okp.at {ps : Prs} (k : Okp ps) {i : Nat} {a : Str × Int} (hi : ps[i]? = some a) : 0 ≤ a.2 ∧ a.2 < 256 := k.pl _ (List.mem_of_getElem? hi)
/-- the first that is least behind x -/
def IsFi (x : Int) (ps : Prs) (j : Nat) : Prop := ∃ a : Str × Int, ps[j]? = some a ∧ (∀ (i : Nat) (b : Str × Int), ps[i]? = some b → wayI x a.2 ≤ wayI x b.2) ∧ ∀ (i : Nat) (b : Str × Int), i < j → ps[i]? = some b → wayI x a.2 < wayI x b.2
theorem IsFi.uniq {x : Int} {ps : Prs} {i j : Nat} (h : IsFi x ps i) (k : IsFi x ps j) : i = j := by
  obtain ⟨a, ha, h1, h2⟩ := h
  obtain ⟨b, hb, k1, k2⟩ := k
  rcases Nat.lt_trichotomy i j with c | c | c
  · have := k2 i a c ha; have := h1 j b hb; omega
  · exact c
  · have := h2 j b c hb; have := k1 i a ha; omega
def fi (x : Int) (ps : Prs) : Nat := if ps.findIdx (fun p => decide (x ≤ p.2)) < ps.length then ps.findIdx (fun p => decide (x ≤ p.2)) else 0
theorem fi_ok {x : Int} {ps : Prs} (k : Okp ps) (hx : 0 ≤ x ∧ x < 256) (hn : ps ≠ []) : IsFi x ps (fi x ps) := by
  unfold fi
  split
  · rename_i h
    refine ⟨_, List.getElem?_eq_getElem h, fun i b hb => ?_, fun i b hi hb => ?_⟩
    · have h1 : x ≤ (ps[ps.findIdx fun p => decide (x ≤ p.2)]).2 := by
        have := List.findIdx_getElem (xs := ps) (p := fun p => decide (x ≤ p.2)) (w := h)
        simpa using this
      have h2 := k.at (List.getElem?_eq_getElem h)
      have h3 := k.at hb
      rw [wayI_eq hx h2, if_pos h1, wayI_eq hx h3]
      by_cases c : ps.findIdx (fun p => decide (x ≤ p.2)) ≤ i
      · have := k.le (List.getElem?_eq_getElem h) hb c
        split <;> omega
      · have : ¬ x ≤ b.2 := by
          have := List.not_of_lt_findIdx (xs := ps) (p := fun p => decide (x ≤ p.2)) (Nat.lt_of_not_le c)
          obtain ⟨h4, rfl⟩ := List.getElem?_eq_some_iff.mp hb
          simpa using this
        rw [if_neg this]
        omega
    · have h1 : x ≤ (ps[ps.findIdx fun p => decide (x ≤ p.2)]).2 := by
        have := List.findIdx_getElem (xs := ps) (p := fun p => decide (x ≤ p.2)) (w := h)
        simpa using this
      have h2 := k.at (List.getElem?_eq_getElem h)
      have h3 := k.at hb
      have : ¬ x ≤ b.2 := by
        have := List.not_of_lt_findIdx (xs := ps) (p := fun p => decide (x ≤ p.2)) hi
        obtain ⟨h4, rfl⟩ := List.getElem?_eq_some_iff.mp hb
        simpa using this
      rw [wayI_eq hx h2, if_pos h1, wayI_eq hx h3, if_neg this]
      omega
  · rename_i h
    have hl : 0 < ps.length := List.length_pos_iff.mpr hn
    have hall : ∀ (i : Nat) (b : Str × Int), ps[i]? = some b → ¬ x ≤ b.2 := fun i b hb => by
      obtain ⟨h4, rfl⟩ := List.getElem?_eq_some_iff.mp hb
      have := List.not_of_lt_findIdx (xs := ps) (p := fun p => decide (x ≤ p.2)) (i := i) (by omega)
      simpa using this
    refine ⟨_, List.getElem?_eq_getElem hl, fun i b hb => ?_, fun i b hi hb => by omega⟩
    have h1 := hall _ _ (List.getElem?_eq_getElem hl)
    have h2 := hall _ _ hb
    have h3 := k.le (List.getElem?_eq_getElem hl) hb (Nat.zero_le _)
    rw [wayI_eq hx (k.at (List.getElem?_eq_getElem hl)), if_neg h1, wayI_eq hx (k.at hb), if_neg h2]
    omega
/-- all that one meets who goes on from x, once round -/
def rnk (x : Int) (ps : Prs) : Prs := ps.drop (fi x ps) ++ ps.take (fi x ps)
theorem rnk_perm (x : Int) (ps : Prs) : (rnk x ps).Perm ps := by
  unfold rnk
  have := (List.perm_append_comm (l₁ := ps.drop (fi x ps)) (l₂ := ps.take (fi x ps)))
  rwa [List.take_append_drop] at this
theorem mem_drop_ {α : Type} {l : List α} {j : Nat} {a : α} (h : a ∈ l.drop j) : ∃ i, j ≤ i ∧ l[i]? = some a := by
  obtain ⟨i, hi⟩ := List.mem_iff_getElem?.mp h
  rw [List.getElem?_drop] at hi
  exact ⟨_, Nat.le_add_right _ _, hi⟩
theorem mem_take_ {α : Type} {l : List α} {j : Nat} {a : α} (h : a ∈ l.take j) : ∃ i, i < j ∧ l[i]? = some a := by
  obtain ⟨i, hi⟩ := List.mem_iff_getElem?.mp h
  rw [List.getElem?_take] at hi
  split at hi
  · exact ⟨i, by assumption, hi⟩
  · cases hi
theorem rnk_pw {x : Int} {ps : Prs} (k : Okp ps) (hx : 0 ≤ x ∧ x < 256) : (rnk x ps).Pairwise (ltD x) := by
  by_cases hn : ps = []
  · subst hn; exact List.Pairwise.nil
  obtain ⟨a, ha, f1, f2⟩ := fi_ok k hx hn
  have pa := k.at ha
  have mono : ∀ b c : Str × Int, 0 ≤ b.2 ∧ b.2 < 256 → 0 ≤ c.2 ∧ c.2 < 256 → ltP b c = true → (x ≤ b.2 ∨ c.2 < x) → ltD x b c := fun b c hb hc h o => by
    unfold ltD
    rw [wayI_eq hx hb, wayI_eq hx hc]
    rcases ltP_iff.mp h with h | ⟨h, h2⟩
    · left; split <;> split <;> omega
    · right; refine ⟨?_, h2⟩; split <;> split <;> omega
  unfold rnk
  rw [List.pairwise_append]
  refine ⟨?_, ?_, fun b hb c hc => ?_⟩
  · refine (k.st.sublist (List.drop_sublist _ _)).imp_of_mem fun {b c} hb hc h => ?_
    obtain ⟨i, hi, eb⟩ := mem_drop_ hb
    obtain ⟨i', hi', ec⟩ := mem_drop_ hc
    refine mono b c (k.at eb) (k.at ec) h ?_
    by_cases c1 : x ≤ a.2
    · left
      have := k.le ha eb hi
      omega
    · right
      have z := f1 i' c ec
      rw [wayI_eq hx pa, if_neg c1, wayI_eq hx (k.at ec)] at z
      have := k.at ec
      split at z <;> omega
  · refine (k.st.sublist (List.take_sublist _ _)).imp_of_mem fun {b c} hb hc h => ?_
    obtain ⟨i, hi, eb⟩ := mem_take_ hb
    obtain ⟨i', hi', ec⟩ := mem_take_ hc
    refine mono b c (k.at eb) (k.at ec) h (.inr ?_)
    have z := f2 i' c hi' ec
    rw [wayI_eq hx pa, wayI_eq hx (k.at ec)] at z
    have := k.le ec ha (by omega)
    split at z <;> split at z <;> omega
  · obtain ⟨i, hi, eb⟩ := mem_drop_ hb
    obtain ⟨i', hi', ec⟩ := mem_take_ hc
    have z := f2 i' c hi' ec
    have l1 := k.le ec ha (by omega)
    have l2 := k.le ha eb hi
    rw [wayI_eq hx pa, wayI_eq hx (k.at ec)] at z
    left
    have p1 := k.at eb
    have p2 := k.at ec
    rw [wayI_eq hx p1, wayI_eq hx p2]
    by_cases c1 : x ≤ a.2 <;> by_cases c2 : x ≤ b.2 <;> by_cases c3 : x ≤ c.2 <;> simp only [c1, c2, c3, if_true, if_false] at z ⊢ <;> omega
theorem rnk_uniq {x : Int} {ps : Prs} {l : Prs} (k : Okp ps) (hx : 0 ≤ x ∧ x < 256) (p : l.Perm ps) (h : l.Pairwise (ltD x)) : l = rnk x ps :=
  uniqS (fun _ _ => ltD_asymm) (p.trans (rnk_perm x ps).symm) h (rnk_pw k hx)
theorem rnk_head {x : Int} {ps : Prs} (k : Okp ps) (hx : 0 ≤ x ∧ x < 256) (hn : ps ≠ []) : (rnk x ps).head? = ps[fi x ps]? := by
  obtain ⟨a, ha, _, _⟩ := fi_ok k hx hn
  unfold rnk
  rw [List.head?_append, List.head?_drop, ha]
  rfl
/-- the keeper of a place -/
def kpr (ps : Prs) (x : Int) : Str := ((rnk x ps).headD (Str.empty, 0)).1
/-- who is met first -/
theorem head_iff {x : Int} {ps : Prs} (k : Okp ps) (hx : 0 ≤ x ∧ x < 256) {a : Str × Int} (ha : a ∈ ps) : kpr ps x = a.1 ↔ ∀ b ∈ ps, b ≠ a → ltD x a b := by
  have pw := rnk_pw k hx
  have pm := rnk_perm x ps
  unfold kpr
  cases e : rnk x ps with
  | nil => rw [e] at pm; rw [← pm.nil_eq] at ha; cases ha
  | cons h t =>
    rw [e] at pm pw
    rw [List.pairwise_cons] at pw
    show h.1 = a.1 ↔ _
    have hm : h ∈ ps := pm.mem_iff.mp List.mem_cons_self
    constructor
    · intro e1 b hb nb
      have : h = a := by
        obtain ⟨i, hi⟩ := List.mem_iff_getElem?.mp hm
        obtain ⟨j, hj⟩ := List.mem_iff_getElem?.mp ha
        have : i = j := by
          obtain ⟨i1, e2⟩ := List.getElem?_eq_some_iff.mp hi
          obtain ⟨j1, e3⟩ := List.getElem?_eq_some_iff.mp hj
          refine (List.getElem_inj (xs := ps.map (·.1)) (h₀ := by simpa using i1) (h₁ := by simpa using j1) k.nd).mp ?_
          rw [List.getElem_map, List.getElem_map, e2, e3, e1]
        subst this
        rw [hi] at hj
        exact Option.some.inj hj
      subst this
      rcases List.mem_cons.mp (pm.mem_iff.mpr hb) with rfl | hb
      · exact absurd rfl nb
      · exact pw.1 b hb
    · intro h1
      by_cases e2 : h = a
      · rw [e2]
      · have := h1 h hm e2
        rcases List.mem_cons.mp (pm.mem_iff.mpr ha) with z | z
        · exact absurd z.symm e2
        · exact (ltD_asymm this (pw.1 a z)).elim
end WR

set_option Elab.async false
set_option linter.all false
set_option maxRecDepth 100000
set_option maxHeartbeats 4000000
/-! circles, in plain Lean: who keeps a place, how rows are put in order -/
namespace WR
open PySem PySem.Spec PyProof.Rows L2
open PySem.W (alike alikeAll dataLt dataLe AllAlike Sortable)
/-- the place of a name -/
def pof (ps : Prs) (s : Str) : Int := ((ps.find? fun p => decide (p.1 = s)).map (·.2)).getD 0
theorem pof_at {ps : Prs} (nd : (ps.map (·.1)).Nodup) {p : Str × Int} (h : p ∈ ps) : pof ps p.1 = p.2 := by
  induction ps with
  | nil => cases h
  | cons q r ih =>
    rw [List.map_cons, List.nodup_cons] at nd
    unfold pof
    by_cases e : q.1 = p.1
    · rw [List.find?_cons_of_pos (by simpa using e)]
      rcases List.mem_cons.mp h with rfl | h
      · rfl
      · exact absurd (List.mem_map.mpr ⟨p, h, e.symm⟩) nd.1
    · rw [List.find?_cons_of_neg (by simpa using e)]
      rcases List.mem_cons.mp h with rfl | h
      · exact absurd rfl e
      · exact ih nd.2 h
/-- how far on a name's place is -/
def dW (x : Int) (ps : Prs) : V → PyData
  | .str s => .int (wayI x (pof ps s))
  | _ => .none
theorem arg_first (num : Nat → Int) (bt : Nat → Nat → Bool) (hbt : ∀ i j, bt i j = decide (num i < num j)) : ∀ k, argBest bt k ≤ k ∧ (∀ j, j ≤ k → num (argBest bt k) ≤ num j) ∧ ∀ j, j < argBest bt k → num (argBest bt k) < num j
  | 0 => ⟨Nat.le_refl _, fun j hj => by have : j = 0 := by omega
                                        subst this; exact Int.le_refl _, fun j hj => absurd hj (Nat.not_lt_zero _)⟩
  | k + 1 => by
    obtain ⟨a1, a2, a3⟩ := arg_first num bt hbt k
    show (if bt (k + 1) (argBest bt k) then k + 1 else argBest bt k) ≤ k + 1 ∧ (∀ j, j ≤ k + 1 → num (if bt (k + 1) (argBest bt k) then k + 1 else argBest bt k) ≤ num j) ∧ ∀ j, j < (if bt (k + 1) (argBest bt k) then k + 1 else argBest bt k) → num (if bt (k + 1) (argBest bt k) then k + 1 else argBest bt k) < num j
    rw [hbt]
    by_cases c : num (k + 1) < num (argBest bt k)
    · rw [if_pos (by simpa using c)]
      refine ⟨Nat.le_refl _, fun j hj => ?_, fun j hj => ?_⟩
      · by_cases e : j = k + 1
        · rw [e]; exact Int.le_refl _
        · have := a2 j (by omega); omega
      · have := a2 j (by omega); omega
    · rw [if_neg (by simpa using c)]
      refine ⟨by omega, fun j hj => ?_, fun j hj => a3 j hj⟩
      by_cases e : j = k + 1
      · subst e; omega
      · exact a2 j (by omega)
theorem kpr_at {x : Int} {ps : Prs} (k : Okp ps) (hx : 0 ≤ x ∧ x < 256) (hn : ps ≠ []) {a : Str × Int} (ha : ps[fi x ps]? = some a) : kpr ps x = a.1 := by
  have hh := rnk_head k hx hn
  rw [ha] at hh
  unfold kpr
  rw [List.headD_eq_head?_getD, hh]
  rfl
theorem best_fi {x : Int} {ps : Prs} (k : Okp ps) (hx : 0 ≤ x ∧ x < 256) (hn : ps ≠ []) : bestV false (dW x ps) (ps.map fun p => V.str p.1) = .str (kpr ps x) := by
  have hl : 0 < ps.length := List.length_pos_iff.mpr hn
  have hd : ∀ (i : Nat) (p : Str × Int), ps[i]? = some p → dW x ps ((ps.map fun p => V.str p.1).getD i .non) = .int (wayI x p.2) := fun i p hp => by
    have : (ps.map fun p => V.str p.1).getD i .non = .str p.1 := by simp [List.getD, hp]
    rw [this]
    show PyData.int (wayI x (pof ps p.1)) = _
    rw [pof_at k.nd (List.mem_of_getElem? hp)]
  obtain ⟨num, hnum⟩ : ∃ num : Nat → Int, ∀ i, num i = match ps[i]? with | some p => wayI x p.2 | none => 1000 := ⟨_, fun _ => rfl⟩
  have nu : ∀ (i : Nat) (p : Str × Int), ps[i]? = some p → num i = wayI x p.2 := fun i p hp => by rw [hnum, hp]
  -- the order that is asked, told by numbers, within the list
  have key : ∀ m, m < ps.length → argBest (btV false (dW x ps) (ps.map fun p => V.str p.1)) m = argBest (fun i j => decide (num i < num j)) m := by
    intro m
    induction m with
    | zero => intro _; rfl
    | succ m ih =>
      intro hm
      have e := ih (by omega)
      show (if btV false (dW x ps) (ps.map fun p => V.str p.1) (m + 1) (argBest (btV false (dW x ps) (ps.map fun p => V.str p.1)) m) then m + 1 else argBest (btV false (dW x ps) (ps.map fun p => V.str p.1)) m) = (if decide (num (m + 1) < num (argBest (fun i j => decide (num i < num j)) m)) then m + 1 else argBest (fun i j => decide (num i < num j)) m)
      rw [e]
      have hle := argBest_le (fun i j => decide (num i < num j)) m
      have e1 := List.getElem?_eq_getElem (l := ps) hm
      have e2 := List.getElem?_eq_getElem (l := ps) (i := argBest (fun i j => decide (num i < num j)) m) (by omega)
      have : btV false (dW x ps) (ps.map fun p => V.str p.1) (m + 1) (argBest (fun i j => decide (num i < num j)) m) = decide (num (m + 1) < num (argBest (fun i j => decide (num i < num j)) m)) := by
        unfold btV
        rw [if_neg Bool.false_ne_true, hd _ _ e1, hd _ _ e2, PySem.W.dataLt_int, nu _ _ e1, nu _ _ e2]
      rw [this]
  obtain ⟨b1, b2, b3⟩ := arg_first num (fun i j => decide (num i < num j)) (fun _ _ => rfl) (ps.length - 1)
  have eA := key (ps.length - 1) (by omega)
  have eJ := List.getElem?_eq_getElem (l := ps) (i := argBest (fun i j => decide (num i < num j)) (ps.length - 1)) (by omega)
  have F : IsFi x ps (argBest (fun i j => decide (num i < num j)) (ps.length - 1)) := by
    refine ⟨_, eJ, fun i b hb => ?_, fun i b hi hb => ?_⟩
    · have hi := (List.getElem?_eq_some_iff.mp hb).1
      have := b2 i (by omega)
      rw [nu _ _ eJ, nu _ _ hb] at this
      exact this
    · have := b3 i hi
      rw [nu _ _ eJ, nu _ _ hb] at this
      exact this
  have ef := F.uniq (fi_ok k hx hn)
  obtain ⟨a, ha, _, _⟩ := fi_ok k hx hn
  have e4 : kpr ps x = a.1 := kpr_at k hx hn ha
  unfold bestV
  rw [List.length_map, eA, ef, e4]
  simp [List.getD, ha]
/-! ## rows put in order -/
def srt (ps : Prs) : Prs := ps.mergeSort fun a b => !ltP b a
/-- what rows are sorted by -/
def dS (ps : Prs) : V → PyData
  | .str s => .tuple [.int (pof ps s), .str s]
  | _ => .none
theorem srt_perm (ps : Prs) : (srt ps).Perm ps := List.mergeSort_perm _ _
theorem ltP_neg {a b c : Str × Int} (h : ltP b a = false) (k : ltP c b = false) : ltP c a = false := by
  cases e : ltP c a with
  | false => rfl
  | true =>
    rw [ltP_iff] at e
    have h' : ¬ (b.2 < a.2 ∨ (b.2 = a.2 ∧ ltT b.1 a.1 = true)) := fun z => by rw [← ltP_iff, h] at z; cases z
    have k' : ¬ (c.2 < b.2 ∨ (c.2 = b.2 ∧ ltT c.1 b.1 = true)) := fun z => by rw [← ltP_iff, k] at z; cases z
    have e1 : a.2 = b.2 := by omega
    have e2 : c.2 = b.2 := by omega
    have e3 : ltT c.1 a.1 = true := by rcases e with e | e; omega; exact e.2
    have n1 : ¬ ltT b.1 a.1 = true := fun z => h' (.inr ⟨e1.symm, z⟩)
    have n2 : ¬ ltT c.1 b.1 = true := fun z => k' (.inr ⟨e2, z⟩)
    by_cases e4 : b.1 = a.1
    · exact absurd (e4 ▸ e3) n2
    · rcases ltT_tri e4 with z | z
      · exact absurd z n1
      · exact absurd (ltT_trans e3 z) n2
theorem srt_ok {ps : Prs} (nd : (ps.map (·.1)).Nodup) (pl : ∀ p ∈ ps, 0 ≤ p.2 ∧ p.2 < 256) : Okp (srt ps) := by
  have pm := srt_perm ps
  have nd' : ((srt ps).map (·.1)).Nodup := (pm.map _).nodup_iff.mpr nd
  refine ⟨nd', fun p hp => pl p (pm.mem_iff.mp hp), ?_⟩
  have h1 : (srt ps).Pairwise fun a b => (!ltP b a) = true := List.pairwise_mergeSort (fun a b c h k => by
    simp only [Bool.not_eq_true'] at h k ⊢
    exact ltP_neg h k) (fun a b => by
    cases e : ltP b a with
    | false => rfl
    | true =>
      cases e2 : ltP a b with
      | false => rfl
      | true => exact (ltP_asymm e e2).elim) ps
  have h2 : (srt ps).Pairwise fun a b => a.1 ≠ b.1 := List.pairwise_map.mp nd'
  refine (h1.and h2).imp fun {a b} h => ?_
  obtain ⟨h, n⟩ := h
  have h : ltP b a = false := by simpa using h
  have h' : ¬ (b.2 < a.2 ∨ (b.2 = a.2 ∧ ltT b.1 a.1 = true)) := fun z => by rw [← ltP_iff, h] at z; cases z
  rw [ltP_iff]
  by_cases c : a.2 < b.2
  · exact .inl c
  · have e : a.2 = b.2 := by
      have : ¬ b.2 < a.2 := fun z => h' (.inl z)
      omega
    refine .inr ⟨e, ?_⟩
    rcases ltT_tri n with z | z
    · exact z
    · exact absurd (.inr ⟨e.symm, z⟩) h'
theorem srt_id {ps : Prs} (k : Okp ps) : srt ps = ps :=
  uniqS (fun a b => ltP_asymm) (srt_perm ps) (srt_ok k.nd k.pl).st k.st
theorem srt_eq {ps qs : Prs} (nd : (ps.map (·.1)).Nodup) (pl : ∀ p ∈ ps, 0 ≤ p.2 ∧ p.2 < 256) (p : ps.Perm qs) : srt ps = srt qs :=
  uniqS (fun a b => ltP_asymm) ((srt_perm ps).trans (p.trans (srt_perm qs).symm)) (srt_ok nd pl).st (srt_ok ((p.map _).nodup_iff.mp nd) fun q hq => pl q (p.mem_iff.mpr hq)).st
theorem srt_names {ps : Prs} (nd : (ps.map (·.1)).Nodup) : (ps.map fun p => V.str p.1).mergeSort (dataLe false (dS ps)) = (srt ps).map fun p => V.str p.1 := by
  unfold srt
  refine (List.map_mergeSort (f := fun p : Str × Int => V.str p.1) fun a ha b hb => ?_).symm
  show (!ltP b a) = !dataLt (.tuple [.int (pof ps b.1), .str b.1]) (.tuple [.int (pof ps a.1), .str a.1])
  rw [pof_at nd ha, pof_at nd hb, lt_pair]
  rfl
theorem dS_alike {ps : Prs} {l : List V} (h : ∀ v ∈ l, ∃ s, v = .str s) : AllAlike (l.map (dS ps)) := fun d hd d' hd' => by
  obtain ⟨v, hv, rfl⟩ := List.mem_map.mp hd
  obtain ⟨w, hw, rfl⟩ := List.mem_map.mp hd'
  obtain ⟨s, rfl⟩ := h v hv
  obtain ⟨t, rfl⟩ := h w hw
  rfl
theorem dS_sortable {ps : Prs} {l : List V} (h : ∀ v ∈ l, ∃ s, v = .str s) : Sortable (l.map (dS ps)) := .inl fun d hd => by
  obtain ⟨v, hv, rfl⟩ := List.mem_map.mp hd
  obtain ⟨s, rfl⟩ := h v hv
  exact ⟨_, _, rfl⟩
end WR

set_option Elab.async false
set_option linter.all false
set_option maxRecDepth 100000
set_option maxHeartbeats 0
namespace WR.L
open PySem PySem.Spec PyProof.Rows L2
def top (i : Nat) : Stmt := PySem.Challenge.pw_peersmeet_k04_places_and_marks_told.main.body.getD i (.Pass ⟨0, 0, 0, 0⟩)
def d_is_whole : Df := ⟨("is_whole", none), "is_whole", "is_whole", top 18, ["thing", "low", "high"], ["thing", "low", "high"], [], [], false, ""⟩
def d_is_name : Df := ⟨("is_name", none), "is_name", "is_name", top 19, ["thing", "sign"], ["thing"], [], [], false, ""⟩
def d_is_text : Df := ⟨("is_text", none), "is_text", "is_text", top 20, ["thing", "sign"], ["thing"], [], [], false, ""⟩
def d_need_name : Df := ⟨("need_name", none), "need_name", "need_name", top 21, ["thing"], ["thing"], [], [], false, ""⟩
def d_place_of : Df := ⟨("place_of", none), "place_of", "place_of", top 22, ["key", "found", "letter"], ["key"], [], [], false, ""⟩
def d_piece_place : Df := ⟨("piece_place", none), "piece_place", "piece_place", top 23, ["key", "at"], ["key", "at"], [], [], false, ""⟩
def d_mark_of : Df := ⟨("mark_of", none), "mark_of", "mark_of", top 24, ["text", "sign", "one", "other"], ["text"], [], [], false, ""⟩
def d__law_cell : Df := ⟨("_law_cell", none), "_law_cell", "_law_cell", top 26, ["script", "k"], ["script", "k"], [], [], false, ""⟩
def d__law_bag : Df := ⟨("_law_bag", none), "_law_bag", "_law_bag", top 27, ["cell"], ["cell"], [], [], false, ""⟩
def d__law_take : Df := ⟨("_law_take", none), "_law_take", "_law_take", top 28, ["bag", "many", "number", "digit"], ["bag", "many"], [], [], false, ""⟩
def d__law_very : Df := ⟨("_law_very", none), "_law_very", "_law_very", top 29, ["found", "thing", "same"], ["found", "thing"], [], [], false, ""⟩
def d__law_any : Df := ⟨("_law_any", none), "_law_any", "_law_any", top 30, ["bag", "some"], ["bag"], [], [], false, ""⟩
def d__law_key : Df := ⟨("_law_key", none), "_law_key", "_law_key", top 31, ["bag", "k"], ["bag"], [], [], false, ""⟩
def d__law_text : Df := ⟨("_law_text", none), "_law_text", "_law_text", top 32, ["bag", "signs", "many", "k"], ["bag"], [], [], false, ""⟩
def d__law_spot : Df := ⟨("_law_spot", none), "_law_spot", "_law_spot", top 33, ["key", "letter", "total", "power"], ["key"], [], [], false, ""⟩
def d__law_mark : Df := ⟨("_law_mark", none), "_law_mark", "_law_mark", top 34, ["text", "one", "other", "sign", "at"], ["text"], [], [], false, ""⟩
def d__law_kind : Df := ⟨("_law_kind", none), "_law_kind", "_law_kind", top 35, ["e", "own", "word", "here"], ["e"], [], [], false, ""⟩
def d__law_told : Df := ⟨("_law_told", none), "_law_told", "_law_told", top 36, ["way", "thing", "other", "e"], ["way", "thing", "other"], [], [], false, ""⟩
def d__law_refused_right : Df := ⟨("_law_refused_right", none), "_law_refused_right", "_law_refused_right", top 37, ["bag", "key", "odd", "bad", "text", "rows", "way", "thing", "other", "word", "due", "found"], ["bag", "key"], [], [], false, ""⟩
def d_law : Df := ⟨("law", none), "law", "law", top 38, ["script", "k", "bag", "at", "near", "turn", "key", "text", "one"], ["script"], [], [], false, ""⟩
def d__law_kind_h : Df := { d__law_kind with hot := true, xn := "e" }
theorem kb1 : Kb d_is_whole 3 [] (fun vs _ => vs) := kb_plain rfl (fun _ _ _ _ _ _ us hl => match us, hl with | [_, _, _], _ => rfl)
theorem kb2 : Kb d_is_name 1 [] (fun vs _ => vs) := kb_plain rfl (fun _ _ _ _ _ _ us hl => match us, hl with | [_], _ => rfl)
theorem kb3 : Kb d_is_text 1 [] (fun vs _ => vs) := kb_plain rfl (fun _ _ _ _ _ _ us hl => match us, hl with | [_], _ => rfl)
theorem kb4 : Kb d_need_name 1 [] (fun vs _ => vs) := kb_plain rfl (fun _ _ _ _ _ _ us hl => match us, hl with | [_], _ => rfl)
theorem kb5 : Kb d_place_of 1 [] (fun vs _ => vs) := kb_plain rfl (fun _ _ _ _ _ _ us hl => match us, hl with | [_], _ => rfl)
theorem kb6 : Kb d_piece_place 2 [] (fun vs _ => vs) := kb_plain rfl (fun _ _ _ _ _ _ us hl => match us, hl with | [_, _], _ => rfl)
theorem kb7 : Kb d_mark_of 1 [] (fun vs _ => vs) := kb_plain rfl (fun _ _ _ _ _ _ us hl => match us, hl with | [_], _ => rfl)
theorem kb8 : Kb d__law_cell 2 [] (fun vs _ => vs) := kb_plain rfl (fun _ _ _ _ _ _ us hl => match us, hl with | [_, _], _ => rfl)
theorem kb9 : Kb d__law_bag 1 [] (fun vs _ => vs) := kb_plain rfl (fun _ _ _ _ _ _ us hl => match us, hl with | [_], _ => rfl)
theorem kb10 : Kb d__law_take 2 [] (fun vs _ => vs) := kb_plain rfl (fun _ _ _ _ _ _ us hl => match us, hl with | [_, _], _ => rfl)
theorem kb11 : Kb d__law_very 2 [] (fun vs _ => vs) := kb_plain rfl (fun _ _ _ _ _ _ us hl => match us, hl with | [_, _], _ => rfl)
theorem kb12 : Kb d__law_key 1 [] (fun vs _ => vs) := kb_plain rfl (fun _ _ _ _ _ _ us hl => match us, hl with | [_], _ => rfl)
theorem kb13 : Kb d__law_text 1 [] (fun vs _ => vs) := kb_plain rfl (fun _ _ _ _ _ _ us hl => match us, hl with | [_], _ => rfl)
theorem kb14 : Kb d__law_spot 1 [] (fun vs _ => vs) := kb_plain rfl (fun _ _ _ _ _ _ us hl => match us, hl with | [_], _ => rfl)
theorem kb15 : Kb d__law_mark 1 [] (fun vs _ => vs) := kb_plain rfl (fun _ _ _ _ _ _ us hl => match us, hl with | [_], _ => rfl)
theorem kb16 : Kb d__law_kind 1 [] (fun vs _ => vs) := kb_plain rfl (fun _ _ _ _ _ _ us hl => match us, hl with | [_], _ => rfl)
theorem kb16h : Kb d__law_kind_h 1 [] (fun vs _ => vs) := kb_plain rfl (fun _ _ _ _ _ _ us hl => match us, hl with | [_], _ => rfl)
theorem kb17 : Kb d__law_told 3 [] (fun vs _ => vs) := kb_plain rfl (fun _ _ _ _ _ _ us hl => match us, hl with | [_, _, _], _ => rfl)
theorem kb18 : Kb d__law_refused_right 2 [] (fun vs _ => vs) := kb_plain rfl (fun _ _ _ _ _ _ us hl => match us, hl with | [_, _], _ => rfl)
theorem kb19 : Kb d_law 1 [] (fun vs _ => vs) := kb_plain rfl (fun _ _ _ _ _ _ us hl => match us, hl with | [_], _ => rfl)
def dx_NoName : Df := ⟨("NoName", some "__init__"), "__init__", "NoName.__init__", inClass (top 2) 0, ["self", "found"], ["self", "found"], [], [], false, ""⟩
def dx_NoPiece : Df := ⟨("NoPiece", some "__init__"), "__init__", "NoPiece.__init__", inClass (top 4) 0, ["self", "found"], ["self", "found"], [], [], false, ""⟩
def dx_NoText : Df := ⟨("NoText", some "__init__"), "__init__", "NoText.__init__", inClass (top 3) 0, ["self", "found"], ["self", "found"], [], [], false, ""⟩
def y : Sy where
  ds := ("is_whole", d_is_whole) :: ("is_name", d_is_name) :: ("is_text", d_is_text) :: ("need_name", d_need_name) :: ("place_of", d_place_of) :: ("piece_place", d_piece_place) :: ("mark_of", d_mark_of) :: ("_law_cell", d__law_cell) :: ("_law_bag", d__law_bag) :: ("_law_take", d__law_take) :: ("_law_very", d__law_very) :: ("_law_any", d__law_any) :: ("_law_key", d__law_key) :: ("_law_text", d__law_text) :: ("_law_spot", d__law_spot) :: ("_law_mark", d__law_mark) :: ("_law_kind", d__law_kind) :: ("_law_told", d__law_told) :: ("_law_refused_right", d__law_refused_right) :: ("law", d_law) :: ("~_law_kind", d__law_kind_h) :: []
  hcs := ("~_law_kind", ⟨"_law_kind", 1, [], fun vs _ => vs⟩) :: []
  cps := ⟨"is_whole", 3, [], fun vs _ => vs⟩ :: ⟨"is_name", 1, [], fun vs _ => vs⟩ :: ⟨"is_text", 1, [], fun vs _ => vs⟩ :: ⟨"need_name", 1, [], fun vs _ => vs⟩ :: ⟨"place_of", 1, [], fun vs _ => vs⟩ :: ⟨"piece_place", 2, [], fun vs _ => vs⟩ :: ⟨"mark_of", 1, [], fun vs _ => vs⟩ :: ⟨"_law_cell", 2, [], fun vs _ => vs⟩ :: ⟨"_law_bag", 1, [], fun vs _ => vs⟩ :: ⟨"_law_take", 2, [], fun vs _ => vs⟩ :: ⟨"_law_very", 2, [], fun vs _ => vs⟩ :: ⟨"_law_key", 1, [], fun vs _ => vs⟩ :: ⟨"_law_text", 1, [], fun vs _ => vs⟩ :: ⟨"_law_spot", 1, [], fun vs _ => vs⟩ :: ⟨"_law_mark", 1, [], fun vs _ => vs⟩ :: ⟨"_law_kind", 1, [], fun vs _ => vs⟩ :: ⟨"_law_told", 3, [], fun vs _ => vs⟩ :: ⟨"_law_refused_right", 2, [], fun vs _ => vs⟩ :: ⟨"law", 1, [], fun vs _ => vs⟩ :: []
  nums := [("RING", 256), ("MOST_PEERS", 8), ("MOST_KEYS", 12), ("MOST_PIECES", 8), ("MOST_COPIES", 4), ("MOST_SIGNS", 60), ("MARK_PRIME", 251), ("PER_CENT", 37), ("FIRST_HASH", 7), ("HASH_TIMES", 33), ("PIECE_STEP", 32)]
  txts := [("LETTERS", "abcdefghijklmnopqrstuvwxyz")]
  blt := ["len", "isinstance", "all", "sum", "max", "min", "ord", "int", "str", "list", "range", "enumerate", "zip", "bool", "repr"]
  cms := []
  cks := []
  cls := []
  ats := []
  xcs := [⟨"NoName", .val, "PeerError", "found", "found", dx_NoName⟩, ⟨"NoPiece", .val, "PeerError", "found", "found", dx_NoPiece⟩, ⟨"NoText", .val, "PeerError", "found", "found", dx_NoText⟩]
  xcl := ["NoName", "NoPiece", "NoText", "PeerError"]
  ex := fun K => xcX K (He.ga K "NoName") [(He.ga K "NoName", true), (He.ga K "NoPiece", false), (He.ga K "NoText", false)] [(He.ga K "NoName", true), (He.ga K "NoPiece", false), (He.ga K "NoText", false), (He.ga K "PeerError", true)] && xcX K (He.ga K "NoPiece") [(He.ga K "NoName", false), (He.ga K "NoPiece", true), (He.ga K "NoText", false)] [(He.ga K "NoName", false), (He.ga K "NoPiece", true), (He.ga K "NoText", false), (He.ga K "PeerError", true)] && xcX K (He.ga K "NoText") [(He.ga K "NoName", false), (He.ga K "NoPiece", false), (He.ga K "NoText", true)] [(He.ga K "NoName", false), (He.ga K "NoPiece", false), (He.ga K "NoText", true), (He.ga K "PeerError", true)]
  nes := []
abbrev gg (K : PySem.W.Frag) (S : Str → XI → Sp) : G := gOf (y.tb K) S
def r_is_whole (K : PySem.W.Frag) (S : Str → XI → Sp) (W : WX) : TS :=
  (tRet (cAnd K (tCB (bIsi K) (tCons (cVar 0) (tCons (tC (.ty "int")) tNil))) (cAnd K (cNot K (tCB (bIsi K) (tCons (cVar 0) (tCons (tC (.ty "bool")) tNil)))) (cChain oLe oLe (cVar 1) (cVar 0) (cVar 2)))))
theorem e_is_whole (K : PySem.W.Frag) (S : Str → XI → Sp) (W : WX) : tBody (tS (gg K S) 40 d_is_whole.N (defScope d_is_whole.st)) (defBody d_is_whole.st) W = r_is_whole K S W := by kernel_rfl
def r_is_name (K : PySem.W.Frag) (S : Str → XI → Sp) (W : WX) : TS :=
  (tRet (cAnd K (tCB (bIsi K) (tCons (cVar 0) (tCons (tC (.ty "str")) tNil))) (cAnd K (cChain oLe oLe (tC (.int 1)) (tCB (bLenG (gg K S)) (tCons (cVar 0) tNil)) (tC (.int 8))) (tCB (bAll K) (tCons (cLcL (cIter K (frzE (cVar 0))) (gName 1) tYes (tOp (oIn K false) (cVar 1) (tC (.str "abcdefghijklmnopqrstuvwxyz"))) [1]) tNil)))))
theorem e_is_name (K : PySem.W.Frag) (S : Str → XI → Sp) (W : WX) : tBody (tS (gg K S) 40 d_is_name.N (defScope d_is_name.st)) (defBody d_is_name.st) W = r_is_name K S W := by kernel_rfl
def r_is_text (K : PySem.W.Frag) (S : Str → XI → Sp) (W : WX) : TS :=
  (tSeq (tIfS (tOr (tNot (cTru K (tCB (bIsi K) (tCons (cVar 0) (tCons (tC (.ty "str")) tNil))))) (cTest (tOp (oGtK K) (tCB (bLenG (gg K S)) (tCons (cVar 0) tNil)) (tC (.int 60)))))
  (tRet (tC (.bl false)))
  tNext)
  (tRet (tCB (bAll K) (tCons (cLcL (cIter K (frzE (cVar 0))) (gName 1) tYes (cAnd K (cChain oLe oLe (tC (.str " ")) (cVar 1) (tC (.str "~"))) (tOp (oNeG (gg K S)) (tCB (bOrd) (tCons (cVar 1) tNil)) (tC (.int 37)))) [1]) tNil))))
theorem e_is_text (K : PySem.W.Frag) (S : Str → XI → Sp) (W : WX) : tBody (tS (gg K S) 40 d_is_text.N (defScope d_is_text.st)) (defBody d_is_text.st) W = r_is_text K S W := by kernel_rfl
def r_need_name (K : PySem.W.Frag) (S : Str → XI → Sp) (W : WX) : TS :=
  (tIfS (tNot (cTru K (cCall (S "is_name" none) 1 0 (fun vs _ => vs) (tCons (cVar 0) tNil) tNil W)))
  (tRs W (He.ga K "NoName") "found" (cVar 0))
  tNext)
theorem e_need_name (K : PySem.W.Frag) (S : Str → XI → Sp) (W : WX) : tBody (tS (gg K S) 40 d_need_name.N (defScope d_need_name.st)) (defBody d_need_name.st) W = r_need_name K S W := by kernel_rfl
def r_place_of (K : PySem.W.Frag) (S : Str → XI → Sp) (W : WX) : TS :=
  (tSeq (tDrop (cCall (S "need_name" none) 1 0 (fun vs _ => vs) (tCons (cVar 0) tNil) tNil W))
  (tSeq (tAsg (tC (.int 7)) (gName 1))
  (tSeq (orL (cFor (cIter K (frzE (cVar 0))) (gName 2)
  (tAsg (tOp oMod (tOp (oAdd K) (tOp (oAdd K) (tOp oMul (tC (.int 33)) (cVar 1)) (mC (gg K S) "index" 1 0 [] (tC (.str "abcdefghijklmnopqrstuvwxyz")) (tCons (cVar 2) tNil) tNil W)) (tC (.int 1))) (tC (.int 256))) (gName 1))))
  (tRet (cVar 1)))))
theorem e_place_of (K : PySem.W.Frag) (S : Str → XI → Sp) (W : WX) : tBody (tS (gg K S) 40 d_place_of.N (defScope d_place_of.st)) (defBody d_place_of.st) W = r_place_of K S W := by kernel_rfl
def r_piece_place (K : PySem.W.Frag) (S : Str → XI → Sp) (W : WX) : TS :=
  (tSeq (tDrop (cCall (S "need_name" none) 1 0 (fun vs _ => vs) (tCons (cVar 0) tNil) tNil W))
  (tSeq (tIfS (tNot (cTru K (cCall (S "is_whole" none) 3 0 (fun vs _ => vs) (tCons (cVar 1) (tCons (tC (.int 0)) (tCons (tOp oSub (tC (.int 8)) (tC (.int 1))) tNil))) tNil W)))
  (tRs W (He.ga K "NoPiece") "found" (cVar 1))
  tNext)
  (tRet (tOp oMod (tOp (oAdd K) (cCall (S "place_of" none) 1 0 (fun vs _ => vs) (tCons (cVar 0) tNil) tNil W) (tOp oMul (tC (.int 32)) (tOp (oAdd K) (cVar 1) (tC (.int 1))))) (tC (.int 256))))))
theorem e_piece_place (K : PySem.W.Frag) (S : Str → XI → Sp) (W : WX) : tBody (tS (gg K S) 40 d_piece_place.N (defScope d_piece_place.st)) (defBody d_piece_place.st) W = r_piece_place K S W := by kernel_rfl
def r_mark_of (K : PySem.W.Frag) (S : Str → XI → Sp) (W : WX) : TS :=
  (tSeq (tIfS (tNot (cTru K (cCall (S "is_text" none) 1 0 (fun vs _ => vs) (tCons (cVar 0) tNil) tNil W)))
  (tRs W (He.ga K "NoText") "found" (cVar 0))
  tNext)
  (tSeq (tAsg (tTup (tCons (tC (.int 1)) (tCons (tC (.int 0)) tNil))) (cTupG K 2 (gCons (gName 2) (gCons (gName 3) gNil))))
  (tSeq (orL (cFor (cIter K (frzE (cVar 0))) (gName 1)
  (tSeq (tAsg (tOp oMod (tOp (oAdd K) (cVar 2) (tCB (bOrd) (tCons (cVar 1) tNil))) (tC (.int 251))) (gName 2))
  (tAsg (tOp oMod (tOp (oAdd K) (cVar 3) (cVar 2)) (tC (.int 251))) (gName 3)))))
  (tRet (tOp (oAdd K) (tOp oMul (tC (.int 256)) (cVar 3)) (cVar 2))))))
theorem e_mark_of (K : PySem.W.Frag) (S : Str → XI → Sp) (W : WX) : tBody (tS (gg K S) 40 d_mark_of.N (defScope d_mark_of.st)) (defBody d_mark_of.st) W = r_mark_of K S W := by kernel_rfl
def r__law_cell (K : PySem.W.Frag) (S : Str → XI → Sp) (W : WX) : TS :=
  (tSeq (tIfS (cTest (tOp (oLtK K) (cVar 1) (tCB (bLenG (gg K S)) (tCons (cVar 0) tNil))))
  (tRet (tOp (oIx K) (cVar 0) (cVar 1)))
  tNext)
  (tRet (tOp (oAdd K) (tOp oMul (tC (.int 48611)) (cVar 1)) (tC (.int 41)))))
theorem e__law_cell (K : PySem.W.Frag) (S : Str → XI → Sp) (W : WX) : tBody (tS (gg K S) 40 d__law_cell.N (defScope d__law_cell.st)) (defBody d__law_cell.st) W = r__law_cell K S W := by kernel_rfl
def r__law_bag (K : PySem.W.Frag) (S : Str → XI → Sp) (W : WX) : TS :=
  (tRet (tLst (tCons (tCB (bMax) (tCons (tC (.int 0)) (tCons (tOp oSub (cVar 0) (tOp oPow (tC (.int 10)) (tC (.int 18)))) tNil))) (tCons (tOp oMod (cVar 0) (tC (.int 2147483629))) (tCons (tC (.int 0)) tNil)))))
theorem e__law_bag (K : PySem.W.Frag) (S : Str → XI → Sp) (W : WX) : tBody (tS (gg K S) 40 d__law_bag.N (defScope d__law_bag.st)) (defBody d__law_bag.st) W = r__law_bag K S W := by kernel_rfl
def r__law_take (K : PySem.W.Frag) (S : Str → XI → Sp) (W : WX) : TS :=
  (tSeq (tIfS (cTest (tOp (oGtK K) (tOp (oIx K) (cVar 0) (tC (.int 0))) (tC (.int 0))))
  (tSeq (tAsg (tOp oMod (tOp (oIx K) (cVar 0) (tC (.int 0))) (cVar 1)) (gName 3))
  (tSeq (tAsg (tOp oFdiv (tOp (oIx K) (cVar 0) (tC (.int 0))) (cVar 1)) (gSub (cVar 0) (tC (.int 0)) oSet))
  (tRet (cVar 3))))
  tNext)
  (tSeq (tAsg (tOp (oAdd K) (tOp (oIx K) (cVar 0) (tC (.int 2))) (tC (.int 1))) (gSub (cVar 0) (tC (.int 2)) oSet))
  (tSeq (tAsg (tOp oMod (tOp oPow (tOp (oAdd K) (tOp (oAdd K) (tOp (oIx K) (cVar 0) (tC (.int 1))) (tOp oMul (tC (.int 7919)) (tOp (oIx K) (cVar 0) (tC (.int 2))))) (tC (.int 53))) (tC (.int 5))) (tC (.int 2147483647))) (gName 2))
  (tSeq (tAsg (tOp oMod (tOp oPow (tOp (oAdd K) (cVar 2) (tOp oMul (tC (.int 104729)) (tOp (oIx K) (cVar 0) (tC (.int 2))))) (tC (.int 3))) (tC (.int 2147483587))) (gName 2))
  (tRet (tOp oMod (tOp oFdiv (cVar 2) (tC (.int 16))) (cVar 1)))))))
theorem e__law_take (K : PySem.W.Frag) (S : Str → XI → Sp) (W : WX) : tBody (tS (gg K S) 40 d__law_take.N (defScope d__law_take.st)) (defBody d__law_take.st) W = r__law_take K S W := by kernel_rfl
def r__law_very (K : PySem.W.Frag) (S : Str → XI → Sp) (W : WX) : TS :=
  (tSeq (tIfS (cTest (tOp (oNeG (gg K S)) (tCB (bReprG (gg K S)) (tCons (cVar 0) tNil)) (tCB (bReprG (gg K S)) (tCons (cVar 1) tNil))))
  (tRet (tC (.bl false)))
  tNext)
  (tSeq (tIfS (tNot (cTru K (tCB (bIsi K) (tCons (cVar 1) (tCons (tC (.ty "list")) tNil)))))
  (tRet (tC (.bl true)))
  tNext)
  (tSeq (tDrop (mC (gg K S) "append" 1 0 [] (cVar 1) (tCons (tC (.str "late")) tNil) tNil W))
  (tSeq (tAsg (tOp (oEqG (gg K S)) (tCB (bReprG (gg K S)) (tCons (cVar 0) tNil)) (tCB (bReprG (gg K S)) (tCons (cVar 1) tNil))) (gName 2))
  (tSeq (tDrop (mC (gg K S) "pop" 0 0 [] (cVar 1) tNil tNil W))
  (tRet (cVar 2)))))))
theorem e__law_very (K : PySem.W.Frag) (S : Str → XI → Sp) (W : WX) : tBody (tS (gg K S) 40 d__law_very.N (defScope d__law_very.st)) (defBody d__law_very.st) W = r__law_very K S W := by kernel_rfl
def r__law_any (K : PySem.W.Frag) (S : Str → XI → Sp) (W : WX) : TS :=
  (tSeq (tAsg (tLst (tCons (tC .non) (tCons (tC (.bl true)) (tCons (tC (.bl false)) (tCons (tOp oSub (tC (.int 0)) (tC (.int 1))) (tCons (tOp oPow (tC (.int 10)) (tC (.int 29))) (tCons (tC (.str "")) (tCons (tC (.str "no")) (tCons (tC (.str "a b")) (tCons (tLst tNil) (tCons (tLst (tCons (tC (.str "a")) tNil)) (tCons (tTup (tCons (tC (.str "a")) tNil)) (tCons (tTup tNil) (tCons tDNewK (tCons (tDisp [((tC (.str "a")), (tC (.int 1)))]) (tCons (tLst (tCons (tLst (tCons (tC (.int 1)) tNil)) tNil)) tNil)))))))))))))))) (gName 1))
  (tRet (tOp (oIx K) (cVar 1) (cCall (S "_law_take" none) 2 0 (fun vs _ => vs) (tCons (cVar 0) (tCons (tC (.int 15)) tNil)) tNil W))))
theorem e__law_any (K : PySem.W.Frag) (S : Str → XI → Sp) (W : WX) : tBody (tS (gg K S) 40 d__law_any.N (defScope d__law_any.st)) (defBody d__law_any.st) W = r__law_any K S W := by kernel_rfl
def r__law_key (K : PySem.W.Frag) (S : Str → XI → Sp) (W : WX) : TS :=
  (tRet (mC (gg K S) "join" 1 0 [] (tC (.str "")) (tCons (cLcL (cRng1 (tCons (tOp (oAdd K) (tC (.int 1)) (cCall (S "_law_take" none) 2 0 (fun vs _ => vs) (tCons (cVar 0) (tCons (tC (.int 8)) tNil)) tNil W)) tNil)) (gName 1) tYes (tOp (oIx K) (tC (.str "abcdefghijklmnopqrstuvwxyz")) (cCall (S "_law_take" none) 2 0 (fun vs _ => vs) (tCons (cVar 0) (tCons (tC (.int 26)) tNil)) tNil wNone)) [1]) tNil) tNil W))
theorem e__law_key (K : PySem.W.Frag) (S : Str → XI → Sp) (W : WX) : tBody (tS (gg K S) 40 d__law_key.N (defScope d__law_key.st)) (defBody d__law_key.st) W = r__law_key K S W := by kernel_rfl
def r__law_text (K : PySem.W.Frag) (S : Str → XI → Sp) (W : WX) : TS :=
  (tSeq (tAsg (tC (.str " !\"#$&'()*+,-./0123456789:;<=>?@ABCDEFGHIJKLMNOPQRSTUVWXYZ[\\]^_`abcdefghijklmnopqrstuvwxyz{|}~")) (gName 1))
  (tSeq (tAsg (tOp (oIx K) (tLst (tCons (tC (.int 0)) (tCons (tC (.int 1)) (tCons (tC (.int 60)) (tCons (cCall (S "_law_take" none) 2 0 (fun vs _ => vs) (tCons (cVar 0) (tCons (tC (.int 61)) tNil)) tNil W) tNil))))) (cCall (S "_law_take" none) 2 0 (fun vs _ => vs) (tCons (cVar 0) (tCons (tC (.int 4)) tNil)) tNil W)) (gName 2))
  (tRet (mC (gg K S) "join" 1 0 [] (tC (.str "")) (tCons (cLcL (cRng1 (tCons (cVar 2) tNil)) (gName 3) tYes (tOp (oIx K) (cVar 1) (cCall (S "_law_take" none) 2 0 (fun vs _ => vs) (tCons (cVar 0) (tCons (tC (.int 94)) tNil)) tNil wNone)) [3]) tNil) tNil W))))
theorem e__law_text (K : PySem.W.Frag) (S : Str → XI → Sp) (W : WX) : tBody (tS (gg K S) 40 d__law_text.N (defScope d__law_text.st)) (defBody d__law_text.st) W = r__law_text K S W := by kernel_rfl
def r__law_spot (K : PySem.W.Frag) (S : Str → XI → Sp) (W : WX) : TS :=
  (tSeq (tAsg (tTup (tCons (tC (.int 0)) (tCons (tC (.int 1)) tNil))) (cTupG K 2 (gCons (gName 2) (gCons (gName 3) gNil))))
  (tSeq (orL (cFor (cIter K (frzE (cRevS K (cVar 0)))) (gName 1)
  (tSeq (tAsg (tOp (oAdd K) (cVar 2) (tOp oMul (cVar 3) (tOp (oAdd K) (mC (gg K S) "index" 1 0 [] (tC (.str "abcdefghijklmnopqrstuvwxyz")) (tCons (cVar 1) tNil) tNil W) (tC (.int 1))))) (gName 2))
  (tAsg (tOp oMul (cVar 3) (tC (.int 33))) (gName 3)))))
  (tRet (tOp oMod (tOp (oAdd K) (cVar 2) (tOp oMul (tC (.int 7)) (cVar 3))) (tC (.int 256))))))
theorem e__law_spot (K : PySem.W.Frag) (S : Str → XI → Sp) (W : WX) : tBody (tS (gg K S) 40 d__law_spot.N (defScope d__law_spot.st)) (defBody d__law_spot.st) W = r__law_spot K S W := by kernel_rfl
def r__law_mark (K : PySem.W.Frag) (S : Str → XI → Sp) (W : WX) : TS :=
  (tSeq (tAsg (tOp (oAdd K) (tC (.int 1)) (tCB (bSum K) (tCons (cLcL (cIter K (frzE (cVar 0))) (gName 3) tYes (tCB (bOrd) (tCons (cVar 3) tNil)) [3]) tNil))) (gName 1))
  (tSeq (tAsg (tOp (oAdd K) (tCB (bLenG (gg K S)) (tCons (cVar 0) tNil)) (tCB (bSum K) (tCons (cLcL (cEnum K (tCons (cVar 0) tNil)) (cTupG K 2 (gCons (gName 4) (gCons (gName 3) gNil))) tYes (tOp oMul (tCB (bOrd) (tCons (cVar 3) tNil)) (tOp oSub (tCB (bLenG (gg K S)) (tCons (cVar 0) tNil)) (cVar 4))) [4, 3]) tNil))) (gName 2))
  (tRet (tOp (oAdd K) (tOp oMul (tC (.int 256)) (tOp oMod (cVar 2) (tC (.int 251)))) (tOp oMod (cVar 1) (tC (.int 251)))))))
theorem e__law_mark (K : PySem.W.Frag) (S : Str → XI → Sp) (W : WX) : tBody (tS (gg K S) 40 d__law_mark.N (defScope d__law_mark.st)) (defBody d__law_mark.st) W = r__law_mark K S W := by kernel_rfl
def r__law_kind (K : PySem.W.Frag) (S : Str → XI → Sp) (W : WX) : TS :=
  (tSeq (tAsg (tLst (tCons (tCB (bIsi K) (tCons (cVar 0) (tCons (tC (.ref (He.ga K "NoName"))) tNil))) (tCons (tCB (bIsi K) (tCons (cVar 0) (tCons (tC (.ref (He.ga K "NoPiece"))) tNil))) (tCons (tCB (bIsi K) (tCons (cVar 0) (tCons (tC (.ref (He.ga K "NoText"))) tNil))) (tCons (tCB (bIsi K) (tCons (cVar 0) (tCons (tC (.ref (He.ga K "PeerError"))) tNil))) tNil))))) (gName 1))
  (tRet (cLcL (cZip K (tCons (tLst (tCons (tC (.str "name")) (tCons (tC (.str "piece")) (tCons (tC (.str "text")) (tCons (tC (.str "base")) tNil))))) (tCons (cVar 1) tNil))) (cTupG K 2 (gCons (gName 2) (gCons (gName 3) gNil))) (cTru K (cVar 3)) (cVar 2) [2, 3])))
theorem e__law_kind (K : PySem.W.Frag) (S : Str → XI → Sp) (W : WX) : tBody (tS (gg K S) 40 d__law_kind.N (defScope d__law_kind.st)) (defBody d__law_kind.st) W = r__law_kind K S W := by kernel_rfl
def r__law_told (K : PySem.W.Frag) (S : Str → XI → Sp) (W : WX) : TS :=
  (tSeq (tTryW K W [.tup [.ref (He.ga K "NoName"), .ref (He.ga K "NoPiece"), .ref (He.ga K "NoText")] (some 3) (fun a cls d => (tRet (tLst (tCons (cCall (S "~_law_kind" (some (a, cls, d))) 1 0 (fun vs _ => vs) (tCons (cVar 3) tNil) tNil wNone) (tCons (cXf (gg K S) 3 a cls d "found") tNil)))))] fun W =>
  (tIfS (cTest (tOp (oEqG (gg K S)) (cVar 0) (tC (.int 0))))
  (tDrop (cCall (S "place_of" none) 1 0 (fun vs _ => vs) (tCons (cVar 1) tNil) tNil W))
  (tIfS (cTest (tOp (oEqG (gg K S)) (cVar 0) (tC (.int 1))))
  (tDrop (cCall (S "mark_of" none) 1 0 (fun vs _ => vs) (tCons (cVar 1) tNil) tNil W))
  (tDrop (cCall (S "piece_place" none) 2 0 (fun vs _ => vs) (tCons (cVar 1) (tCons (cVar 2) tNil)) tNil W)))))
  (tRet (tLst (tCons (tLst tNil) (tCons (tC .non) tNil)))))
theorem e__law_told (K : PySem.W.Frag) (S : Str → XI → Sp) (W : WX) : tBody (tS (gg K S) 40 d__law_told.N (defScope d__law_told.st)) (defBody d__law_told.st) W = r__law_told K S W := by kernel_rfl
def r__law_refused_right (K : PySem.W.Frag) (S : Str → XI → Sp) (W : WX) : TS :=
  (tSeq (tAsg (tOp (oIx K) (tLst (tCons (tC (.str "")) (tCons (tC (.str "A")) (tCons (tC (.str "abcdefghi")) (tCons (tC (.str "a b")) (tCons (tC .non) (tCons (tC (.int 7)) (tCons (tC (.bl true)) (tCons (tLst (tCons (tC (.str "a")) tNil)) (tCons tDNewK tNil)))))))))) (cCall (S "_law_take" none) 2 0 (fun vs _ => vs) (tCons (cVar 0) (tCons (tC (.int 9)) tNil)) tNil W)) (gName 2))
  (tSeq (tAsg (tOp (oIx K) (tLst (tCons (tC (.int 8)) (tCons (cUn (tC (.int 1))) (tCons (tC (.bl true)) (tCons (tC .non) (tCons (tC (.str "0")) (tCons (tLst (tCons (tC (.int 0)) tNil)) (tCons (tOp oPow (tC (.int 10)) (tC (.int 29))) tNil)))))))) (cCall (S "_law_take" none) 2 0 (fun vs _ => vs) (tCons (cVar 0) (tCons (tC (.int 7)) tNil)) tNil W)) (gName 3))
  (tSeq (tAsg (tOp (oIx K) (tLst (tCons (tOp oMul (tC (.str "a")) (tC (.int 61))) (tCons (tC (.str "a\n")) (tCons (tC (.str "\nb")) (tCons (tC .non) (tCons (tC (.int 7)) (tCons (tLst (tCons (tC (.str "a")) tNil)) (tCons (tC (.bl true)) (tCons tDNewK (tCons (tTup (tCons (tC (.str "a")) tNil)) tNil)))))))))) (cCall (S "_law_take" none) 2 0 (fun vs _ => vs) (tCons (cVar 0) (tCons (tC (.int 9)) tNil)) tNil W)) (gName 4))
  (tSeq (tAsg (tLst (tCons (tTup (tCons (tC (.int 0)) (tCons (cVar 2) (tCons (tC .non) (tCons (tC (.str "name")) (tCons (cVar 2) tNil)))))) (tCons (tTup (tCons (tC (.int 1)) (tCons (cVar 4) (tCons (tC .non) (tCons (tC (.str "text")) (tCons (cVar 4) tNil)))))) (tCons (tTup (tCons (tC (.int 2)) (tCons (cVar 2) (tCons (cVar 3) (tCons (tC (.str "name")) (tCons (cVar 2) tNil)))))) tNil)))) (gName 5))
  (tSeq (orL (cFor (cIter K (frzE (tOp (oAdd K) (cVar 5) (tLst (tCons (tTup (tCons (tC (.int 2)) (tCons (cVar 2) (tCons (tC (.int 0)) (tCons (tC (.str "name")) (tCons (cVar 2) tNil)))))) (tCons (tTup (tCons (tC (.int 2)) (tCons (cVar 1) (tCons (cVar 3) (tCons (tC (.str "piece")) (tCons (cVar 3) tNil)))))) tNil)))))) (cTupG K 5 (gCons (gName 6) (gCons (gName 7) (gCons (gName 8) (gCons (gName 9) (gCons (gName 10) gNil))))))
  (tSeq (tAsg (cCall (S "_law_told" none) 3 0 (fun vs _ => vs) (tCons (cVar 6) (tCons (cVar 7) (tCons (cVar 8) tNil))) tNil W) (gName 11))
  (tIfS (tOr (cTest (tOp (oNeG (gg K S)) (tOp (oIx K) (cVar 11) (tC (.int 0))) (tLst (tCons (cVar 9) (tCons (tC (.str "base")) tNil))))) (tNot (cTru K (cCall (S "_law_very" none) 2 0 (fun vs _ => vs) (tCons (tOp (oIx K) (cVar 11) (tC (.int 1))) (tCons (cVar 10) tNil)) tNil W))))
  (tRet (tC (.bl false)))
  tNext))))
  (tRet (tC (.bl true))))))))
theorem e__law_refused_right (K : PySem.W.Frag) (S : Str → XI → Sp) (W : WX) : tBody (tS (gg K S) 40 d__law_refused_right.N (defScope d__law_refused_right.st)) (defBody d__law_refused_right.st) W = r__law_refused_right K S W := by kernel_rfl
def r_law (K : PySem.W.Frag) (S : Str → XI → Sp) (W : WX) : TS :=
  (tSeq (orL (cFor (cRng1 (tCons (tCB (bMax) (tCons (tC (.int 3)) (tCons (tCB (bMin) (tCons (tC (.int 12)) (tCons (tCB (bLenG (gg K S)) (tCons (cVar 0) tNil)) tNil))) tNil))) tNil)) (gName 1)
  (tSeq (tAsg (cCall (S "_law_bag" none) 1 0 (fun vs _ => vs) (tCons (cCall (S "_law_cell" none) 2 0 (fun vs _ => vs) (tCons (cVar 0) (tCons (cVar 1) tNil)) tNil W) tNil) tNil W) (gName 2))
  (tSeq (cPar 6 7 (tCons (cCall (S "_law_key" none) 1 0 (fun vs _ => vs) (tCons (cVar 2) tNil) tNil W) (tCons (cCall (S "_law_text" none) 1 0 (fun vs _ => vs) (tCons (cVar 2) tNil) tNil W) tNil)))
  (tSeq (tAsg (cCall (S "_law_take" none) 2 0 (fun vs _ => vs) (tCons (cVar 2) (tCons (tOp (oAdd K) (tCB (bLenG (gg K S)) (tCons (cVar 7) tNil)) (tC (.int 1))) tNil)) tNil W) (gName 3))
  (tSeq (tAsg (tOp (oAdd K) (tOp (oAdd K) (tSl (oSl K) (cVar 7) tNoPart (cPart (cVar 3))) (tOp (oIx K) (tC (.str "!~ a")) (cCall (S "_law_take" none) 2 0 (fun vs _ => vs) (tCons (cVar 2) (tCons (tC (.int 4)) tNil)) tNil W))) (tSl (oSl K) (cVar 7) (cPart (tOp (oAdd K) (cVar 3) (tC (.int 1)))) tNoPart)) (gName 4))
  (tSeq (orL (cFor (cRng1 (tCons (tC (.int 2)) tNil)) (gName 5)
  (tSeq (tIfS (tOr (cTest (tOp (oNeG (gg K S)) (tCB (bReprG (gg K S)) (tCons (cCall (S "place_of" none) 1 0 (fun vs _ => vs) (tCons (cVar 6) tNil) tNil W) tNil)) (tCB (bReprG (gg K S)) (tCons (cCall (S "_law_spot" none) 1 0 (fun vs _ => vs) (tCons (cVar 6) tNil) tNil W) tNil)))) (cTest (tOp (oNeG (gg K S)) (tCB (bReprG (gg K S)) (tCons (cCall (S "mark_of" none) 1 0 (fun vs _ => vs) (tCons (cVar 7) tNil) tNil W) tNil)) (tCB (bReprG (gg K S)) (tCons (cCall (S "_law_mark" none) 1 0 (fun vs _ => vs) (tCons (cVar 7) tNil) tNil W) tNil)))))
  (tRet (tC (.bl false)))
  tNext)
  (tSeq (orL (cFor (cRng1 (tCons (tC (.int 8)) tNil)) (gName 8)
  (tIfS (cTest (tOp (oNeG (gg K S)) (tCB (bReprG (gg K S)) (tCons (cCall (S "piece_place" none) 2 0 (fun vs _ => vs) (tCons (cVar 6) (tCons (cVar 8) tNil)) tNil W) tNil)) (tCB (bReprG (gg K S)) (tCons (tOp oMod (tOp (oAdd K) (tOp (oAdd K) (cCall (S "_law_spot" none) 1 0 (fun vs _ => vs) (tCons (cVar 6) tNil) tNil W) (tC (.int 32))) (tOp oMul (tC (.int 32)) (cVar 8))) (tC (.int 256))) tNil))))
  (tRet (tC (.bl false)))
  tNext)))
  (tIfS (tAnd (cTest (tOp (oEqG (gg K S)) (tCB (bLenG (gg K S)) (tCons (cVar 4) tNil)) (tCB (bLenG (gg K S)) (tCons (cVar 7) tNil)))) (cTest (tOp (oNeG (gg K S)) (tOp (oEqG (gg K S)) (cCall (S "mark_of" none) 1 0 (fun vs _ => vs) (tCons (cVar 4) tNil) tNil W) (cCall (S "mark_of" none) 1 0 (fun vs _ => vs) (tCons (cVar 7) tNil) tNil W)) (tOp (oEqG (gg K S)) (cVar 4) (cVar 7)))))
  (tRet (tC (.bl false)))
  tNext)))))
  (tIfS (tOr (cTest (tOp (oNeG (gg K S)) (tLst (tCons (tC (.int 8)) (tCons (tC (.int 12)) (tCons (tC (.int 8)) (tCons (tC (.int 4)) tNil))))) (tLst (tCons (tC (.int 8)) (tCons (tC (.int 12)) (tCons (tC (.int 8)) (tCons (tC (.int 4)) tNil))))))) (tNot (cTru K (cCall (S "_law_refused_right" none) 2 0 (fun vs _ => vs) (tCons (cVar 2) (tCons (cVar 6) tNil)) tNil W))))
  (tRet (tC (.bl false)))
  tNext))))))))
  (tRet (tC (.bl true))))
theorem e_law (K : PySem.W.Frag) (S : Str → XI → Sp) (W : WX) : tBody (tS (gg K S) 40 d_law.N (defScope d_law.st)) (defBody d_law.st) W = r_law K S W := by kernel_rfl
def rh__law_kind (K : PySem.W.Frag) (S : Str → XI → Sp) (a : Addr) (cls : Value) (d : Option Addr) : TS :=
  (tSeq (tAsg (tLst (tCons (tCB (rIsX (gg K S) a cls d) (tCons (cVar 0) (tCons (tC (.ref (He.ga K "NoName"))) tNil))) (tCons (tCB (rIsX (gg K S) a cls d) (tCons (cVar 0) (tCons (tC (.ref (He.ga K "NoPiece"))) tNil))) (tCons (tCB (rIsX (gg K S) a cls d) (tCons (cVar 0) (tCons (tC (.ref (He.ga K "NoText"))) tNil))) (tCons (tCB (rIsX (gg K S) a cls d) (tCons (cVar 0) (tCons (tC (.ref (He.ga K "PeerError"))) tNil))) tNil))))) (gName 1))
  (tRet (cLc (hZip K (tCons (tLst (tCons (tC (.str "name")) (tCons (tC (.str "piece")) (tCons (tC (.str "text")) (tCons (tC (.str "base")) tNil))))) (tCons (cVar 1) tNil))) (cTupG K 2 (gCons (gName 2) (gCons (gName 3) gNil))) (cTru K (cVar 3)) (cVar 2) [2, 3])))
theorem eh__law_kind (K : PySem.W.Frag) (S : Str → XI → Sp) (a : Addr) (cls : Value) (d : Option Addr) : sBody (hS (gg K S) d__law_kind_h.N (defScope d__law_kind_h.st) (some ⟨"e", a, cls, d⟩) 40) (defBody d__law_kind_h.st) = rh__law_kind K S a cls d := by kernel_rfl
abbrev SPX (K : PySem.W.Frag) (n : Nat) : Str → XI → Sp := spAt (y.tb K) 40 y.ds n
abbrev SP (K : PySem.W.Frag) (n : Nat) (x : Str) : Sp := SPX K n x none
theorem o_is_whole {K : PySem.W.Frag} {n : Nat} {v0 v1 v2 : V} {H : Hp} {Q : VK} {E : XK} (h : r_is_whole K (SPX K n) (fun cls dd _ H1 => E cls dd H1) ⟨fun _ H1 => Q .non H1, Q, fun _ _ => False, fun _ _ => False⟩ [some v0, some v1, some v2] H) : SP K (n + 1) "is_whole" [v0, v1, v2] H Q E := by
  unfold SP SPX
  rw [spAt_succ (d := d_is_whole) rfl]
  refine wpDf_ok rfl rfl ?_
  rw [show gOfL (y.tb K) (spAt (y.tb K) 40 y.ds n) "is_whole" d_is_whole = gg K (SPX K n) from rfl, e_is_whole]
  exact h
theorem o_is_name {K : PySem.W.Frag} {n : Nat} {v0 : V} {H : Hp} {Q : VK} {E : XK} (h : r_is_name K (SPX K n) (fun cls dd _ H1 => E cls dd H1) ⟨fun _ H1 => Q .non H1, Q, fun _ _ => False, fun _ _ => False⟩ [some v0, none] H) : SP K (n + 1) "is_name" [v0] H Q E := by
  unfold SP SPX
  rw [spAt_succ (d := d_is_name) rfl]
  refine wpDf_ok rfl rfl ?_
  rw [show gOfL (y.tb K) (spAt (y.tb K) 40 y.ds n) "is_name" d_is_name = gg K (SPX K n) from rfl, e_is_name]
  exact h
theorem o_is_text {K : PySem.W.Frag} {n : Nat} {v0 : V} {H : Hp} {Q : VK} {E : XK} (h : r_is_text K (SPX K n) (fun cls dd _ H1 => E cls dd H1) ⟨fun _ H1 => Q .non H1, Q, fun _ _ => False, fun _ _ => False⟩ [some v0, none] H) : SP K (n + 1) "is_text" [v0] H Q E := by
  unfold SP SPX
  rw [spAt_succ (d := d_is_text) rfl]
  refine wpDf_ok rfl rfl ?_
  rw [show gOfL (y.tb K) (spAt (y.tb K) 40 y.ds n) "is_text" d_is_text = gg K (SPX K n) from rfl, e_is_text]
  exact h
theorem o_need_name {K : PySem.W.Frag} {n : Nat} {v0 : V} {H : Hp} {Q : VK} {E : XK} (h : r_need_name K (SPX K n) (fun cls dd _ H1 => E cls dd H1) ⟨fun _ H1 => Q .non H1, Q, fun _ _ => False, fun _ _ => False⟩ [some v0] H) : SP K (n + 1) "need_name" [v0] H Q E := by
  unfold SP SPX
  rw [spAt_succ (d := d_need_name) rfl]
  refine wpDf_ok rfl rfl ?_
  rw [show gOfL (y.tb K) (spAt (y.tb K) 40 y.ds n) "need_name" d_need_name = gg K (SPX K n) from rfl, e_need_name]
  exact h
theorem o_place_of {K : PySem.W.Frag} {n : Nat} {v0 : V} {H : Hp} {Q : VK} {E : XK} (h : r_place_of K (SPX K n) (fun cls dd _ H1 => E cls dd H1) ⟨fun _ H1 => Q .non H1, Q, fun _ _ => False, fun _ _ => False⟩ [some v0, none, none] H) : SP K (n + 1) "place_of" [v0] H Q E := by
  unfold SP SPX
  rw [spAt_succ (d := d_place_of) rfl]
  refine wpDf_ok rfl rfl ?_
  rw [show gOfL (y.tb K) (spAt (y.tb K) 40 y.ds n) "place_of" d_place_of = gg K (SPX K n) from rfl, e_place_of]
  exact h
theorem o_piece_place {K : PySem.W.Frag} {n : Nat} {v0 v1 : V} {H : Hp} {Q : VK} {E : XK} (h : r_piece_place K (SPX K n) (fun cls dd _ H1 => E cls dd H1) ⟨fun _ H1 => Q .non H1, Q, fun _ _ => False, fun _ _ => False⟩ [some v0, some v1] H) : SP K (n + 1) "piece_place" [v0, v1] H Q E := by
  unfold SP SPX
  rw [spAt_succ (d := d_piece_place) rfl]
  refine wpDf_ok rfl rfl ?_
  rw [show gOfL (y.tb K) (spAt (y.tb K) 40 y.ds n) "piece_place" d_piece_place = gg K (SPX K n) from rfl, e_piece_place]
  exact h
theorem o_mark_of {K : PySem.W.Frag} {n : Nat} {v0 : V} {H : Hp} {Q : VK} {E : XK} (h : r_mark_of K (SPX K n) (fun cls dd _ H1 => E cls dd H1) ⟨fun _ H1 => Q .non H1, Q, fun _ _ => False, fun _ _ => False⟩ [some v0, none, none, none] H) : SP K (n + 1) "mark_of" [v0] H Q E := by
  unfold SP SPX
  rw [spAt_succ (d := d_mark_of) rfl]
  refine wpDf_ok rfl rfl ?_
  rw [show gOfL (y.tb K) (spAt (y.tb K) 40 y.ds n) "mark_of" d_mark_of = gg K (SPX K n) from rfl, e_mark_of]
  exact h
theorem o__law_cell {K : PySem.W.Frag} {n : Nat} {v0 v1 : V} {H : Hp} {Q : VK} {E : XK} (h : r__law_cell K (SPX K n) (fun cls dd _ H1 => E cls dd H1) ⟨fun _ H1 => Q .non H1, Q, fun _ _ => False, fun _ _ => False⟩ [some v0, some v1] H) : SP K (n + 1) "_law_cell" [v0, v1] H Q E := by
  unfold SP SPX
  rw [spAt_succ (d := d__law_cell) rfl]
  refine wpDf_ok rfl rfl ?_
  rw [show gOfL (y.tb K) (spAt (y.tb K) 40 y.ds n) "_law_cell" d__law_cell = gg K (SPX K n) from rfl, e__law_cell]
  exact h
theorem o__law_bag {K : PySem.W.Frag} {n : Nat} {v0 : V} {H : Hp} {Q : VK} {E : XK} (h : r__law_bag K (SPX K n) (fun cls dd _ H1 => E cls dd H1) ⟨fun _ H1 => Q .non H1, Q, fun _ _ => False, fun _ _ => False⟩ [some v0] H) : SP K (n + 1) "_law_bag" [v0] H Q E := by
  unfold SP SPX
  rw [spAt_succ (d := d__law_bag) rfl]
  refine wpDf_ok rfl rfl ?_
  rw [show gOfL (y.tb K) (spAt (y.tb K) 40 y.ds n) "_law_bag" d__law_bag = gg K (SPX K n) from rfl, e__law_bag]
  exact h
theorem o__law_take {K : PySem.W.Frag} {n : Nat} {v0 v1 : V} {H : Hp} {Q : VK} {E : XK} (h : r__law_take K (SPX K n) (fun cls dd _ H1 => E cls dd H1) ⟨fun _ H1 => Q .non H1, Q, fun _ _ => False, fun _ _ => False⟩ [some v0, some v1, none, none] H) : SP K (n + 1) "_law_take" [v0, v1] H Q E := by
  unfold SP SPX
  rw [spAt_succ (d := d__law_take) rfl]
  refine wpDf_ok rfl rfl ?_
  rw [show gOfL (y.tb K) (spAt (y.tb K) 40 y.ds n) "_law_take" d__law_take = gg K (SPX K n) from rfl, e__law_take]
  exact h
theorem o__law_very {K : PySem.W.Frag} {n : Nat} {v0 v1 : V} {H : Hp} {Q : VK} {E : XK} (h : r__law_very K (SPX K n) (fun cls dd _ H1 => E cls dd H1) ⟨fun _ H1 => Q .non H1, Q, fun _ _ => False, fun _ _ => False⟩ [some v0, some v1, none] H) : SP K (n + 1) "_law_very" [v0, v1] H Q E := by
  unfold SP SPX
  rw [spAt_succ (d := d__law_very) rfl]
  refine wpDf_ok rfl rfl ?_
  rw [show gOfL (y.tb K) (spAt (y.tb K) 40 y.ds n) "_law_very" d__law_very = gg K (SPX K n) from rfl, e__law_very]
  exact h
theorem o__law_any {K : PySem.W.Frag} {n : Nat} {v0 : V} {H : Hp} {Q : VK} {E : XK} (h : r__law_any K (SPX K n) (fun cls dd _ H1 => E cls dd H1) ⟨fun _ H1 => Q .non H1, Q, fun _ _ => False, fun _ _ => False⟩ [some v0, none] H) : SP K (n + 1) "_law_any" [v0] H Q E := by
  unfold SP SPX
  rw [spAt_succ (d := d__law_any) rfl]
  refine wpDf_ok rfl rfl ?_
  rw [show gOfL (y.tb K) (spAt (y.tb K) 40 y.ds n) "_law_any" d__law_any = gg K (SPX K n) from rfl, e__law_any]
  exact h
theorem o__law_key {K : PySem.W.Frag} {n : Nat} {v0 : V} {H : Hp} {Q : VK} {E : XK} (h : r__law_key K (SPX K n) (fun cls dd _ H1 => E cls dd H1) ⟨fun _ H1 => Q .non H1, Q, fun _ _ => False, fun _ _ => False⟩ [some v0, none] H) : SP K (n + 1) "_law_key" [v0] H Q E := by
  unfold SP SPX
  rw [spAt_succ (d := d__law_key) rfl]
  refine wpDf_ok rfl rfl ?_
  rw [show gOfL (y.tb K) (spAt (y.tb K) 40 y.ds n) "_law_key" d__law_key = gg K (SPX K n) from rfl, e__law_key]
  exact h
theorem o__law_text {K : PySem.W.Frag} {n : Nat} {v0 : V} {H : Hp} {Q : VK} {E : XK} (h : r__law_text K (SPX K n) (fun cls dd _ H1 => E cls dd H1) ⟨fun _ H1 => Q .non H1, Q, fun _ _ => False, fun _ _ => False⟩ [some v0, none, none, none] H) : SP K (n + 1) "_law_text" [v0] H Q E := by
  unfold SP SPX
  rw [spAt_succ (d := d__law_text) rfl]
  refine wpDf_ok rfl rfl ?_
  rw [show gOfL (y.tb K) (spAt (y.tb K) 40 y.ds n) "_law_text" d__law_text = gg K (SPX K n) from rfl, e__law_text]
  exact h
theorem o__law_spot {K : PySem.W.Frag} {n : Nat} {v0 : V} {H : Hp} {Q : VK} {E : XK} (h : r__law_spot K (SPX K n) (fun cls dd _ H1 => E cls dd H1) ⟨fun _ H1 => Q .non H1, Q, fun _ _ => False, fun _ _ => False⟩ [some v0, none, none, none] H) : SP K (n + 1) "_law_spot" [v0] H Q E := by
  unfold SP SPX
  rw [spAt_succ (d := d__law_spot) rfl]
  refine wpDf_ok rfl rfl ?_
  rw [show gOfL (y.tb K) (spAt (y.tb K) 40 y.ds n) "_law_spot" d__law_spot = gg K (SPX K n) from rfl, e__law_spot]
  exact h
theorem o__law_mark {K : PySem.W.Frag} {n : Nat} {v0 : V} {H : Hp} {Q : VK} {E : XK} (h : r__law_mark K (SPX K n) (fun cls dd _ H1 => E cls dd H1) ⟨fun _ H1 => Q .non H1, Q, fun _ _ => False, fun _ _ => False⟩ [some v0, none, none, none, none] H) : SP K (n + 1) "_law_mark" [v0] H Q E := by
  unfold SP SPX
  rw [spAt_succ (d := d__law_mark) rfl]
  refine wpDf_ok rfl rfl ?_
  rw [show gOfL (y.tb K) (spAt (y.tb K) 40 y.ds n) "_law_mark" d__law_mark = gg K (SPX K n) from rfl, e__law_mark]
  exact h
theorem o__law_kind {K : PySem.W.Frag} {n : Nat} {v0 : V} {H : Hp} {Q : VK} {E : XK} (h : r__law_kind K (SPX K n) (fun cls dd _ H1 => E cls dd H1) ⟨fun _ H1 => Q .non H1, Q, fun _ _ => False, fun _ _ => False⟩ [some v0, none, none, none] H) : SP K (n + 1) "_law_kind" [v0] H Q E := by
  unfold SP SPX
  rw [spAt_succ (d := d__law_kind) rfl]
  refine wpDf_ok rfl rfl ?_
  rw [show gOfL (y.tb K) (spAt (y.tb K) 40 y.ds n) "_law_kind" d__law_kind = gg K (SPX K n) from rfl, e__law_kind]
  exact h
theorem o__law_told {K : PySem.W.Frag} {n : Nat} {v0 v1 v2 : V} {H : Hp} {Q : VK} {E : XK} (h : r__law_told K (SPX K n) (fun cls dd _ H1 => E cls dd H1) ⟨fun _ H1 => Q .non H1, Q, fun _ _ => False, fun _ _ => False⟩ [some v0, some v1, some v2, none] H) : SP K (n + 1) "_law_told" [v0, v1, v2] H Q E := by
  unfold SP SPX
  rw [spAt_succ (d := d__law_told) rfl]
  refine wpDf_ok rfl rfl ?_
  rw [show gOfL (y.tb K) (spAt (y.tb K) 40 y.ds n) "_law_told" d__law_told = gg K (SPX K n) from rfl, e__law_told]
  exact h
theorem o__law_refused_right {K : PySem.W.Frag} {n : Nat} {v0 v1 : V} {H : Hp} {Q : VK} {E : XK} (h : r__law_refused_right K (SPX K n) (fun cls dd _ H1 => E cls dd H1) ⟨fun _ H1 => Q .non H1, Q, fun _ _ => False, fun _ _ => False⟩ [some v0, some v1, none, none, none, none, none, none, none, none, none, none] H) : SP K (n + 1) "_law_refused_right" [v0, v1] H Q E := by
  unfold SP SPX
  rw [spAt_succ (d := d__law_refused_right) rfl]
  refine wpDf_ok rfl rfl ?_
  rw [show gOfL (y.tb K) (spAt (y.tb K) 40 y.ds n) "_law_refused_right" d__law_refused_right = gg K (SPX K n) from rfl, e__law_refused_right]
  exact h
theorem o_law {K : PySem.W.Frag} {n : Nat} {v0 : V} {H : Hp} {Q : VK} {E : XK} (h : r_law K (SPX K n) (fun cls dd _ H1 => E cls dd H1) ⟨fun _ H1 => Q .non H1, Q, fun _ _ => False, fun _ _ => False⟩ [some v0, none, none, none, none, none, none, none, none] H) : SP K (n + 1) "law" [v0] H Q E := by
  unfold SP SPX
  rw [spAt_succ (d := d_law) rfl]
  refine wpDf_ok rfl rfl ?_
  rw [show gOfL (y.tb K) (spAt (y.tb K) 40 y.ds n) "law" d_law = gg K (SPX K n) from rfl, e_law]
  exact h
theorem oh__law_kind {K : PySem.W.Frag} {n : Nat} {v0 : V} {H : Hp} {Q : VK} {E : XK} {a : Addr} {cls : Value} {d : Option Addr} (h : rh__law_kind K (SPX K n) a cls d ⟨fun _ H1 => Q .non H1, Q, fun _ _ => False, fun _ _ => False⟩ [some v0, none, none, none] H) : SPX K (n + 1) "~_law_kind" (some (a, cls, d)) [v0] H Q E := by
  unfold SPX
  rw [spAt_succ (d := d__law_kind_h) rfl]
  refine wpDf_okH rfl rfl ?_
  show sBody (hS (gg K (SPX K n)) d__law_kind_h.N (defScope d__law_kind_h.st) (some ⟨"e", a, cls, d⟩) 40) (defBody d__law_kind_h.st) _ _ _
  rw [eh__law_kind]
  exact h
theorem c_append_1 (K : PySem.W.Frag) (S : Str → XI → Sp) : mf (gg K S) "append" 1 [] = [] := by kernel_rfl
theorem c_index_1 (K : PySem.W.Frag) (S : Str → XI → Sp) : mf (gg K S) "index" 1 [] = [] := by kernel_rfl
theorem c_join_1 (K : PySem.W.Frag) (S : Str → XI → Sp) : mf (gg K S) "join" 1 [] = [] := by kernel_rfl
theorem c_pop_0 (K : PySem.W.Frag) (S : Str → XI → Sp) : mf (gg K S) "pop" 0 [] = [] := by kernel_rfl

end WR.L
set_option Elab.async false
set_option linter.all false
set_option maxRecDepth 100000
set_option maxHeartbeats 4000000
namespace WR.L
open PySem PySem.Spec PyProof.Rows L2
/-! ## things, and what repr tells of them -/
theorem textFrom_le {L : Nat} : ∀ (ts : List Str) (k : Nat) (acc : Str), (∀ t ∈ ts, t.length ≤ L) → (textFrom k acc ts).length ≤ acc.length + ts.length * (L + 2)
  | [], k, acc, _ => by show acc.length ≤ _; omega
  | t :: r, k, acc, h => by
    have ih := textFrom_le r (k + 1) (acc ++ (if k > 0 then ", " else "" : String) ++ t) fun t ht => h t (List.mem_cons_of_mem _ ht)
    have e : (acc ++ (if k > 0 then ", " else "" : String) ++ t).length = acc.length + (if k > 0 then 2 else 0) + t.length := by
      rw [strLen_append, strLen_append]
      split <;> rfl
    rw [e] at ih
    have ht := h t List.mem_cons_self
    show (textFrom (k + 1) (acc ++ (if k > 0 then ", " else "" : String) ++ t) r).length ≤ _
    have : (if k > 0 then 2 else 0 : Nat) ≤ 2 := by split <;> omega
    rw [List.length_cons, Nat.succ_mul]
    omega
theorem listText_le {L : Nat} {ts : List Str} (h : ∀ t ∈ ts, t.length ≤ L) : (listText ts).length ≤ ts.length * (L + 2) + 2 := by
  have := textFrom_le ts 0 "[" h
  have e1 : ("[" : Str).length = 1 := rfl
  have e2 : ("]" : Str).length = 1 := rfl
  unfold listText
  rw [strLen_append]
  omega
theorem piled_le {L : Nat} : ∀ {ts : List Str}, (∀ t ∈ ts, t.length ≤ L) → piled ts ≤ ts.length * (L + 2)
  | [], _ => Nat.zero_le _
  | t :: r, h => by
    have ih := piled_le (ts := r) fun t ht => h t (List.mem_cons_of_mem _ ht)
    have ht := h t List.mem_cons_self
    show (t.length + 2) + piled r ≤ _
    rw [List.length_cons, Nat.succ_mul]
    omega
theorem joined_le {L : Nat} {ts : List Str} (h : ∀ t ∈ ts, t.length ≤ L) : (Str.join ", " ts).length ≤ ts.length * (L + 2) := by
  by_cases e : ts = []
  · subst e; exact Nat.zero_le _
  · have := join_length_add ts e
    have := piled_le h
    omega
theorem tupleText_le {L : Nat} {ts : List Str} (h : ∀ t ∈ ts, t.length ≤ L) : (tupleText ts).length ≤ ts.length * (L + 2) + 3 := by
  have := joined_le h
  have e1 : ("(" : Str).length = 1 := rfl
  unfold tupleText
  rw [strLen_append, strLen_append]
  have : ((if ts.length == 1 then ",)" else ")" : String) : Str).length ≤ 2 := by split <;> decide
  omega
theorem dictText_le {L : Nat} {ts : List Str} (h : ∀ t ∈ ts, t.length ≤ L) : (dictText ts).length ≤ ts.length * (L + 2) + 2 := by
  have := joined_le h
  have e1 : ("{" : Str).length = 1 := rfl
  have e2 : ("}" : Str).length = 1 := rfl
  unfold dictText
  rw [strLen_append, strLen_append]
  omega
/-- signs that data may hold -/
def As (s : Str) : Prop := ∀ c ∈ s.cps.toList, c < 128
def okSc : V → Prop
  | .non => True
  | .bl _ => True
  | .int i => i.natAbs < 10 ^ 40
  | .str s => s.length ≤ 100 ∧ As s
  | _ => False
structure Shw (d : PyData) (L k : Nat) : Prop where
  s : PyData.showable d = true
  dp : PyData.depth d ≤ k
  l : (PyData.shown d).length ≤ L
section
variable {K : PySem.W.Frag} {H H' : Hp} {v : V} {vs : List V} {N : Nat}
theorem sc_dx (h : okSc v) : ∃ d, Dx K H v d ∧ Shw d 1100 0 := by
  cases v with
  | non => exact ⟨_, .non, rfl, Nat.le_refl _, by decide⟩
  | bl b => exact ⟨_, .bl b, rfl, Nat.le_refl _, by cases b <;> decide⟩
  | int i =>
    have h : i.natAbs < 10 ^ 40 := h
    refine ⟨_, .int i, ?_, Nat.le_refl _, ?_⟩
    · show decide (i.natAbs.log2 < 1920) = true
      rw [decide_eq_true_eq]
      by_cases z : i.natAbs = 0
      · rw [z]; decide
      · have : i.natAbs < 2 ^ 1920 := Nat.lt_of_lt_of_le h (by decide +kernel)
        exact (Nat.log2_lt z).mpr this
    · have e := int_text_length_le10 (k := 40) (by decide) h
      show (Str.ofString (toString i)).length ≤ 1100
      rw [PySem.ofString_length]
      exact Nat.le_trans e (by decide)
  | str s =>
    obtain ⟨h1, h2⟩ := h
    refine ⟨_, .str s, rfl, Nat.le_refl _, ?_⟩
    have := StrLaws.reprText_len s fun c hc => Nat.lt_of_lt_of_le (h2 c hc) (by decide)
    show (reprText s).length ≤ 1100
    omega
  | ref => exact h.elim
  | _ => exact h.elim
theorem all_dx {L k : Nat} : ∀ {vs : List V}, (∀ v ∈ vs, ∃ d, Dx K H v d ∧ Shw d L k) → ∃ ds, DxAll K H vs ds ∧ PyData.showableAll ds = true ∧ PyData.depthAll ds ≤ k ∧ (PyData.shownAll ds).length = vs.length ∧ ∀ t ∈ PyData.shownAll ds, t.length ≤ L
  | [], _ => ⟨[], .nil, rfl, Nat.zero_le _, rfl, fun t ht => nomatch ht⟩
  | v :: vs, h => by
    obtain ⟨d, h1, h2⟩ := h v List.mem_cons_self
    obtain ⟨ds, a1, a2, a3, a4, a5⟩ := all_dx (vs := vs) fun v hv => h v (List.mem_cons_of_mem _ hv)
    refine ⟨d :: ds, .cons h1 a1, ?_, ?_, ?_, fun t ht => ?_⟩
    · show (d.showable && PyData.showableAll ds) = true
      rw [h2.s, a2]; rfl
    · show max d.depth (PyData.depthAll ds) ≤ k
      have := h2.dp
      omega
    · show (d.shown :: PyData.shownAll ds).length = _
      rw [List.length_cons, List.length_cons, a4]
    · rcases List.mem_cons.mp (show t ∈ d.shown :: PyData.shownAll ds from ht) with rfl | ht
      · exact h2.l
      · exact a5 t ht
/-- a tuple's tree -/
inductive Tre (H : Hp) : Nat → V → Prop
  | sc {n : Nat} {v : V} (h : okSc v) : Tre H n v
  | tup {n : Nat} {p : Addr} {vs : List V} (h : H p = some (.tup vs)) (hl : vs.length ≤ 20) (ha : ∀ v ∈ vs, Tre H n v) : Tre H (n + 1) (.ref p)
theorem Tre.tp {n : Nat} (x : Tp H H') (h : Tre H n v) : Tre H' n v := by
  induction h with
  | sc h => exact .sc h
  | tup h hl _ ih => exact .tup (x _ _ h) hl ih
theorem Tre.up {n m : Nat} (h : Tre H n v) (l : n ≤ m) : Tre H m v := by
  induction h generalizing m with
  | sc h => exact .sc h
  | tup h hl _ ih =>
    cases m with
    | zero => omega
    | succ m => exact .tup h hl fun v hv => ih v hv (by omega)
def bd : Nat → Nat
  | 0 => 1100
  | n + 1 => 20 * (bd n + 2) + 3
theorem bd_mono : ∀ {n m : Nat}, n ≤ m → bd n ≤ bd m
  | 0, m, _ => by
    cases m with
    | zero => exact Nat.le_refl _
    | succ m => have := bd_mono (n := 0) (m := m) (Nat.zero_le _); show bd 0 ≤ 20 * (bd m + 2) + 3; omega
  | n + 1, 0, h => by omega
  | n + 1, m + 1, h => by
    have := bd_mono (n := n) (m := m) (by omega)
    show 20 * (bd n + 2) + 3 ≤ 20 * (bd m + 2) + 3
    omega
theorem Tre.dx {n : Nat} (h : Tre H n v) : ∃ d, Dx K H v d ∧ Shw d (bd n) n := by
  induction h with
  | sc h =>
    obtain ⟨d, h1, h2⟩ := sc_dx (K := K) (H := H) h
    exact ⟨d, h1, h2.s, Nat.le_trans h2.dp (Nat.zero_le _), Nat.le_trans h2.l (bd_mono (n := 0) (Nat.zero_le _))⟩
  | @tup n p vs h hl _ ih =>
    obtain ⟨ds, a1, a2, a3, a4, a5⟩ := all_dx ih
    refine ⟨_, .tup (look_of_tup h) a1, a2, ?_, ?_⟩
    · show PyData.depthAll ds + 1 ≤ n + 1
      omega
    · have := tupleText_le a5
      show (tupleText (PyData.shownAll ds)).length ≤ 20 * (bd n + 2) + 3
      have e : (PyData.shownAll ds).length * (bd n + 2) ≤ 20 * (bd n + 2) := Nat.mul_le_mul_right _ (by omega)
      omega
/-- a dict's entries -/
def okKv (kv : Key × V) : Prop := (∃ s, kv.1 = .inr s ∧ s.length ≤ 100 ∧ As s) ∧ okSc kv.2
theorem kv_dx : ∀ {kvs : List (Key × V)}, (∀ kv ∈ kvs, okKv kv) → ∃ ds, DxKv K H kvs ds ∧ PyData.showableKv ds = true ∧ PyData.depthKv ds ≤ 0 ∧ (PyData.shownKv ds).length = kvs.length ∧ ∀ t ∈ PyData.shownKv ds, t.length ≤ 2300
  | [], _ => ⟨[], .nil, rfl, Nat.zero_le _, rfl, fun t ht => nomatch ht⟩
  | (k, v) :: kvs, h => by
    obtain ⟨⟨s, e, h1, h2⟩, h3⟩ := h (k, v) List.mem_cons_self
    obtain rfl : k = .inr s := e
    obtain ⟨d, d1, d2⟩ := sc_dx (K := K) (H := H) h3
    obtain ⟨ds, a1, a2, a3, a4, a5⟩ := kv_dx (kvs := kvs) fun v hv => h v (List.mem_cons_of_mem _ hv)
    have d0 := d2.dp
    refine ⟨(.str s, d) :: ds, .cons d1 a1, ?_, ?_, ?_, fun t ht => ?_⟩
    · show (true && d.showable && PyData.showableKv ds) = true
      rw [d2.s, a2]; rfl
    · show max (max 0 d.depth) (PyData.depthKv ds) ≤ 0
      omega
    · show ((reprText s ++ ": " ++ d.shown) :: PyData.shownKv ds).length = _
      rw [List.length_cons, List.length_cons, a4]
    · rcases List.mem_cons.mp (show t ∈ (reprText s ++ ": " ++ d.shown) :: PyData.shownKv ds from ht) with rfl | ht
      · have := StrLaws.reprText_len s fun c hc => Nat.lt_of_lt_of_le (h2 c hc) (by decide)
        have := d2.l
        have e : (": " : Str).length = 2 := rfl
        rw [strLen_append, strLen_append]
        omega
      · exact a5 t ht
/-- a thing: a tuple's tree, a list or a dict of such, a tuple with a list within -/
inductive Th (H : Hp) (N : Nat) : V → Prop
  | tt {v : V} (h : Tre H 3 v) : Th H N v
  | lst {p : Addr} {vs : List V} (h : H p = some (.lst vs)) (hl : vs.length ≤ N) (ha : ∀ x ∈ vs, Tre H 2 x) : Th H N (.ref p)
  | dic {p : Addr} {kvs : List (Key × V)} (h : H p = some (.dK kvs)) (hl : kvs.length ≤ N) (ha : ∀ kv ∈ kvs, okKv kv) : Th H N (.ref p)
  | mix {p : Addr} {vs : List V} (h : H p = some (.tup vs)) (hl : vs.length ≤ 20) (ha : ∀ x ∈ vs, Tre H 2 x ∨ ∃ q xs, x = .ref q ∧ H q = some (.lst xs) ∧ xs.length ≤ 20 ∧ ∀ z ∈ xs, okSc z) : Th H N (.ref p)
theorem Th.dx (h : Th H N v) (hN : N ≤ 30) : ∃ d, Dx K H v d ∧ Shw d 15000000 4 := by
  have b2 : bd 2 = 440903 := by decide
  have b3 : bd 3 = 8818103 := by decide
  cases h with
  | tt h =>
    obtain ⟨d, h1, h2⟩ := h.dx (K := K)
    exact ⟨d, h1, h2.s, Nat.le_trans h2.dp (by decide), Nat.le_trans h2.l (by omega)⟩
  | @lst p vs h hl ha =>
    obtain ⟨ds, a1, a2, a3, a4, a5⟩ := all_dx fun v hv => (ha v hv).dx (K := K)
    refine ⟨_, .lst (look_of_lst h) a1, a2, ?_, ?_⟩
    · show PyData.depthAll ds + 1 ≤ 4; omega
    · have := listText_le a5
      show (listText (PyData.shownAll ds)).length ≤ _
      have e : (PyData.shownAll ds).length * (bd 2 + 2) ≤ 30 * (bd 2 + 2) := Nat.mul_le_mul_right _ (by omega)
      omega
  | @dic p kvs h hl ha =>
    obtain ⟨ds, a1, a2, a3, a4, a5⟩ := kv_dx (K := K) (H := H) ha
    refine ⟨_, .dic (.inl h) a1, a2, ?_, ?_⟩
    · show PyData.depthKv ds + 1 ≤ 4; omega
    · have := dictText_le a5
      show (dictText (PyData.shownKv ds)).length ≤ _
      have e : (PyData.shownKv ds).length * (2300 + 2) ≤ 30 * (2300 + 2) := Nat.mul_le_mul_right _ (by omega)
      omega
  | @mix p vs h hl ha =>
    obtain ⟨ds, a1, a2, a3, a4, a5⟩ := all_dx (K := K) (H := H) (vs := vs) (L := bd 2) (k := 2) fun v hv => by
      rcases ha v hv with h | ⟨q, xs, rfl, hq, hx, hz⟩
      · exact h.dx
      · obtain ⟨es, c1, c2, c3, c4, c5⟩ := all_dx (K := K) (H := H) fun z hz' => sc_dx (hz z hz')
        refine ⟨_, .lst (look_of_lst hq) c1, c2, ?_, ?_⟩
        · show PyData.depthAll es + 1 ≤ 2; omega
        · have := listText_le c5
          show (listText (PyData.shownAll es)).length ≤ _
          have e : (PyData.shownAll es).length * (1100 + 2) ≤ 20 * (1100 + 2) := Nat.mul_le_mul_right _ (by omega)
          omega
    refine ⟨_, .tup (look_of_tup h) a1, a2, ?_, ?_⟩
    · show PyData.depthAll ds + 1 ≤ 4; omega
    · have := tupleText_le a5
      show (tupleText (PyData.shownAll ds)).length ≤ _
      have e : (PyData.shownAll ds).length * (bd 2 + 2) ≤ 20 * (bd 2 + 2) := Nat.mul_le_mul_right _ (by omega)
      omega
/-- repr of a thing -/
theorem repr_th (h : Th H N v) (hN : N ≤ 30) : ∃ t : Str, ∀ Q : VK, Q (.str t) H → bRepr K [v] H Q := by
  obtain ⟨d, h1, h2⟩ := h.dx (K := K) hN
  exact ⟨d.shown, fun Q q => ⟨v, d, rfl, h1, h2.s, Nat.le_trans h2.dp (by decide), Nat.le_trans h2.l (by rw [sizeLine_eq]; decide), q⟩⟩
theorem repr_sc (h : okSc v) : ∃ t : Str, ∀ Q : VK, Q (.str t) H → bRepr K [v] H Q := repr_th (N := 0) (.tt (.sc h)) (by decide)
theorem repr_d {d : PyData} {L k : Nat} (h : Dx K H v d) (s : Shw d L k) (hL : L ≤ 16000000) (hk : k ≤ 30) {Q : VK} (q : Q (.str d.shown) H) : bRepr K [v] H Q :=
  ⟨v, d, rfl, h, s.s, Nat.le_trans s.dp (by omega), Nat.le_trans s.l (by rw [sizeLine_eq]; omega), q⟩
end
end WR.L

set_option Elab.async false
set_option linter.all false
set_option maxRecDepth 100000
set_option maxHeartbeats 4000000
namespace WR.L
open PySem PySem.Spec PyProof.Rows L2
section
variable {K : PySem.W.Frag} {n : Nat} {H H' : Hp} {Q : VK} {E : XK} {v : V} {N : Nat} {m : String}
/-! ## looks at things -/
/-- of what kind a thing is -/
inductive Kd (H : Hp) : V → String → Prop
  | non : Kd H .non "NoneType"
  | bl (b : Bool) : Kd H (.bl b) "bool"
  | int (i : Int) : Kd H (.int i) "int"
  | str (s : Str) : Kd H (.str s) "str"
  | lst {a : Addr} {xs : List V} (h : H a = some (.lst xs)) : Kd H (.ref a) "list"
  | tup {a : Addr} {xs : List V} (h : H a = some (.tup xs)) : Kd H (.ref a) "tuple"
  | dK {a : Addr} {kvs : List (Key × V)} (h : H a = some (.dK kvs)) : Kd H (.ref a) "dict"
def kds : List String := ["NoneType", "bool", "int", "str", "list", "tuple", "dict"]
def isK (n T : String) : Bool := decide (n = T) || (decide (n = "bool") && decide (T = "int"))
theorem isK_ok : ∀ n ∈ kds, ∀ T ∈ kindsI, kitB n T = some (isK n T) := by
  intro n hn T hT
  simp only [kds, List.mem_cons, List.not_mem_nil, or_false] at hn
  simp only [kindsI, List.mem_cons, List.not_mem_nil, or_false] at hT
  rcases hn with rfl | rfl | rfl | rfl | rfl | rfl | rfl <;> rcases hT with rfl | rfl | rfl | rfl | rfl | rfl <;> kernel_rfl
theorem Kd.ex {m : String} (x : Ex H H') (k : Kd H v m) : Kd H' v m := by
  cases k with
  | non => exact .non
  | bl b => exact .bl b
  | int i => exact .int i
  | str s => exact .str s
  | lst h => exact .lst (x _ _ h)
  | tup h => exact .tup (x _ _ h)
  | dK h => exact .dK (x _ _ h)
theorem Kd.ty {m : String} (k : Kd H v m) : tyN K H v = some m ∧ m ∈ kds := by
  cases k with
  | non => exact ⟨rfl, by simp [kds]⟩
  | bl b => exact ⟨rfl, by simp [kds]⟩
  | int i => exact ⟨rfl, by simp [kds]⟩
  | str s => exact ⟨rfl, by simp [kds]⟩
  | lst h => exact ⟨ty_lst (look_of_lst h), by simp [kds]⟩
  | tup h => exact ⟨by simp only [tyN, look_of_tup h], by simp [kds]⟩
  | dK h => exact ⟨ty_dK (look_of_dK h), by simp [kds]⟩
theorem isi_k {T m : String} (k : Kd H v m) (hT : T ∈ kindsI) (h : Q (.bl (isK m T)) H) : bIsi K [v, .ty T] H Q := by
  obtain ⟨ht, hm⟩ := k.ty (K := K)
  rw [isi_ty ht (isK_ok m hm T hT)]; exact h
theorem sc_kd (h : okSc v) : ∃ m, Kd H v m := by
  cases v with
  | non => exact ⟨_, .non⟩
  | bl b => exact ⟨_, .bl b⟩
  | int i => exact ⟨_, .int i⟩
  | str s => exact ⟨_, .str s⟩
  | _ => exact h.elim
theorem Tre.kd {k : Nat} (h : Tre H k v) : ∃ m, Kd H v m := by
  cases h with
  | sc h => exact sc_kd h
  | tup h => exact ⟨_, .tup h⟩
theorem Th.kd (h : Th H N v) : ∃ m, Kd H v m := by
  cases h with
  | tt h => exact h.kd
  | lst h => exact ⟨_, .lst h⟩
  | dic h => exact ⟨_, .dK h⟩
  | mix h => exact ⟨_, .tup h⟩
theorem yes_ {σ : L2.St} {R : Bool → Hp → Prop} (h : R true H) : tYes σ H R := h
/-- texts' lengths -/
theorem sc_len {s : Str} (h : okSc (.str s)) : s.length ≤ 1000 := by
  have := h.1; omega
/-- a name: one to eight letters -/
def lets : List Nat := ("abcdefghijklmnopqrstuvwxyz" : Str).cps.toList
def isNm (s : Str) : Bool := decide (1 ≤ s.length) && (decide (s.length ≤ 8) && s.cps.toList.all fun c => decide (c ∈ lets))
def nmV : V → Bool
  | .str s => isNm s
  | _ => false
theorem kb_ss : kitB "str" "str" = some true := kb_str_str
theorem in_letter {c : Nat} {s : Str} {b : Bool} : oIn K b (.str ⟨#[c]⟩) (.str s) H Q = Q (.bl (b ^^ decide (c ∈ s.cps.toList))) H := rfl
theorem lens {s : Str} : s.cps.toList.length = s.length := by simp [Str.length]
/-- a comprehension over a text's signs: f tells of each -/
theorem lc_cps {i : Nat} {σ : St} {s : Str} {te : TE} {f : Nat → V} (hs : s.length ≤ 1000)
    (hf : ∀ c H1 (R : VK), c ∈ s.cps.toList → Ex H H1 → R (f c) H1 → te (σ.set i (some (.str ⟨#[c]⟩))) H1 R)
    (h : ∀ D H', Ex H H' → H D = none → H' D = some (.lst (s.cps.toList.map f)) → Q (.ref D) H') (hw : ∀ v, wipe (σ.set i (some v)) [i] = wipe σ [i]) (hw2 : wipe σ [i] = σ) :
    cLcL (fun σ H R => R (Its s) H) (gName i) tYes te [i] σ H Q := by
  refine .inl ?_
  intro D hD
  refine lpc_inv (n := s.cps.size) (fun j H' => Ex H H' ∧ H' D = some (.lst ((s.cps.toList.take j).map f))) ?_ ?_ ⟨Ex.refl.new hD, by rw [upd_same]; rfl⟩
  · rintro H' ⟨h1, h2⟩
    refine ⟨Nat.le_refl _, h D H' h1 hD ?_⟩
    rw [h2]
    have e : s.cps.toList.take s.cps.size = s.cps.toList := List.take_of_length_le (by simp)
    rw [e]
  · rintro j H' hj ⟨h1, h2⟩ R hR
    refine ⟨hj, ?_⟩
    rintro x H2 ⟨rfl, c, hc, rfl⟩
    rw [hw2]
    have e : s.cps.toList[j]? = some c := by simpa using hc
    refine ⟨(hw _).trans hw2, yes_ ?_⟩
    refine hf c _ _ (List.mem_of_getElem? e) h1 ?_
    refine ⟨_, h2, ?_, hR _ ⟨?_, ?_⟩⟩
    · rw [List.length_map, List.length_take]
      have := small1000 hs
      have e : s.cps.toList.length = s.length := lens
      omega
    · intro a o e
      by_cases hb : a = D
      · subst hb; rw [hD] at e; cases e
      · rw [upd_ne hb]; exact h1 a o e
    · rw [upd_same, List.take_add_one, e]
      simp
/-- .. with a test that f tells: those that are so -/
theorem lc_fil {i : Nat} {σ : St} {s : Str} {tt : L2.TT} {f : Nat → Bool} (hs : s.length ≤ 1000)
    (hf : ∀ c H1 (R : Bool → Hp → Prop), c ∈ s.cps.toList → Ex H H1 → R (f c) H1 → tt (σ.set i (some (.str ⟨#[c]⟩))) H1 R)
    (h : ∀ D H', Ex H H' → H D = none → H' D = some (.lst ((s.cps.toList.filter f).map fun c => V.str ⟨#[c]⟩)) → Q (.ref D) H') (hi : i < σ.length) (hw : ∀ v, wipe (σ.set i (some v)) [i] = wipe σ [i]) (hw2 : wipe σ [i] = σ) :
    cLcL (fun σ H R => R (Its s) H) (gName i) tt (cVar i) [i] σ H Q := by
  refine .inl ?_
  intro D hD
  refine lpc_inv (n := s.cps.size) (fun j H' => Ex H H' ∧ H' D = some (.lst (((s.cps.toList.take j).filter f).map fun c => V.str ⟨#[c]⟩))) ?_ ?_ ⟨Ex.refl.new hD, by rw [upd_same]; rfl⟩
  · rintro H' ⟨h1, h2⟩
    refine ⟨Nat.le_refl _, h D H' h1 hD ?_⟩
    rw [h2]
    have e : s.cps.toList.take s.cps.size = s.cps.toList := List.take_of_length_le (by simp)
    rw [e]
  · rintro j H' hj ⟨h1, h2⟩ R hR
    refine ⟨hj, ?_⟩
    rintro x H2 ⟨rfl, c, hc, rfl⟩
    rw [hw2]
    have e : s.cps.toList[j]? = some c := by simpa using hc
    refine ⟨(hw _).trans hw2, ?_⟩
    refine hf c _ _ (List.mem_of_getElem? e) h1 ?_
    have ex2 : ∀ x : HO, Ex H (upd H2 D x) := fun x a o e => by
      by_cases hb : a = D
      · subst hb; rw [hD] at e; cases e
      · rw [upd_ne hb]; exact h1 a o e
    cases q : f c with
    | true =>
      simp only [if_true, cVar, List.getElem?_set_self hi]
      refine ⟨_, h2, ?_, hR _ ⟨ex2 _, ?_⟩⟩
      · rw [List.length_map]
        have := small1000 hs
        have e : s.cps.toList.length = s.length := lens
        have := List.length_filter_le f (s.cps.toList.take j)
        rw [List.length_take] at this
        omega
      · rw [upd_same, List.take_add_one, e]
        simp [q]
    | false =>
      simp only [Bool.false_eq_true, if_false]
      refine hR _ ⟨h1, ?_⟩
      rw [h2, List.take_add_one, e]
      simp [q]
theorem all_bl {α : Type} {l : List α} {f : α → Bool} {D : Addr} (h : H D = some (.lst (l.map fun c => V.bl (f c)))) (q : Q (.bl (l.all f)) H) : bAll K [.ref D] H Q := by
  refine ⟨D, l.map f, rfl, ?_, ?_⟩
  · rw [look_of_lst h, List.map_map]; rfl
  · have : (l.map f).all id = l.all f := by rw [List.all_map]; rfl
    first | (rw [this]; exact q) | (simpa [List.all_map, Function.comp_def] using q)
theorem s_is_name (k : Kd H v m) (hs : okSc v ∨ m ≠ "str") (h : ∀ H', Ex H H' → Q (.bl (nmV v)) H') : SP K (n+1) "is_name" [v] H Q E := by
  refine o_is_name ?_
  simp only [r_is_name, tSeq, tIfS, tNext, tRet, tRetN, tDrop, tAsg, tC, cVar, tOp, tCB, tCons, tNil, tTup, tLst, tIf, tAnd, tOr, tNot, cTest, cTru, oTru, cAnd, cOr, cNot, cUn, cChain, gName, cTupG, gCons, gNil, gSub, oLt, oLtK, oLe, oGt, oGe, oGtK, oGeK, oBor, oIs, oIsNot, oSub, oMul, oFdiv, oMod, oPow, cPar, cPar3, cAug, tDNewK, cCall, cAttr, frzE, List.mem_singleton, List.lookup_cons_self, List.getElem?_cons_zero, List.getElem?_cons_succ, List.set_cons_zero, List.set_cons_succ, Option.some.injEq, reduceCtorEq, if_true, if_false, Bool.true_eq_false, Bool.false_eq_true, decide_eq_true_eq, ite_true, ite_false, ↓reduceIte, List.length_cons, List.length_nil, true_and, and_true, exists_eq_left', exists_eq_left, List.cons.injEq]
  refine isi_k k (by decide) ?_
  cases k with
  | str s =>
    have hs := sc_len (hs.resolve_right fun z => z rfl)
    simp only [isK, decide_true, Bool.true_or, oTru]
    rw [len_str]
    refine ⟨Nat.le_of_lt (small1000 hs), ?_⟩
    try simp only [tSeq, tIfS, tNext, tRet, tRetN, tDrop, tAsg, tC, cVar, tOp, tCB, tCons, tNil, tTup, tLst, tIf, tAnd, tOr, tNot, cTest, cTru, oTru, cAnd, cOr, cNot, cUn, cChain, gName, cTupG, gCons, gNil, gSub, oLt, oLtK, oLe, oGt, oGe, oGtK, oGeK, oBor, oIs, oIsNot, oSub, oMul, oFdiv, oMod, oPow, cPar, cPar3, cAug, tDNewK, cCall, cAttr, frzE, List.mem_singleton, List.lookup_cons_self, List.getElem?_cons_zero, List.getElem?_cons_succ, List.set_cons_zero, List.set_cons_succ, Option.some.injEq, reduceCtorEq, if_true, if_false, Bool.true_eq_false, Bool.false_eq_true, decide_eq_true_eq, ite_true, ite_false, ↓reduceIte, List.length_cons, List.length_nil, true_and, and_true, exists_eq_left', exists_eq_left, List.cons.injEq]
    unfold nmV isNm at h
    by_cases h1 : 1 ≤ s.length
    · by_cases h8 : s.length ≤ 8
      · rw [decide_eq_true (by exact_mod_cast h1 : (1 : Int) ≤ (s.length : Int)), decide_eq_true (by exact_mod_cast h8 : (s.length : Int) ≤ 8)]
        try simp only [tSeq, tIfS, tNext, tRet, tRetN, tDrop, tAsg, tC, cVar, tOp, tCB, tCons, tNil, tTup, tLst, tIf, tAnd, tOr, tNot, cTest, cTru, oTru, cAnd, cOr, cNot, cUn, cChain, gName, cTupG, gCons, gNil, gSub, oLt, oLtK, oLe, oGt, oGe, oGtK, oGeK, oBor, oIs, oIsNot, oSub, oMul, oFdiv, oMod, oPow, cPar, cPar3, cAug, tDNewK, cCall, cAttr, frzE, List.mem_singleton, List.lookup_cons_self, List.getElem?_cons_zero, List.getElem?_cons_succ, List.set_cons_zero, List.set_cons_succ, Option.some.injEq, reduceCtorEq, if_true, if_false, Bool.true_eq_false, Bool.false_eq_true, decide_eq_true_eq, ite_true, ite_false, ↓reduceIte, List.length_cons, List.length_nil, true_and, and_true, exists_eq_left', exists_eq_left, List.cons.injEq]
        refine lc_cps (f := fun c => V.bl (decide (c ∈ lets))) hs (fun c H1 R hc e q => ?_) (fun D H' e _ hD => ?_) (fun v => rfl) rfl
        · simp only [tOp, tC, cVar, List.set_cons_zero, List.set_cons_succ, List.getElem?_cons_zero, List.getElem?_cons_succ]
          rw [in_letter, Bool.false_xor]
          exact q
        · refine all_bl hD ?_
          have := h H' e
          simpa [h1, h8] using this
      · rw [decide_eq_true (by exact_mod_cast h1 : (1 : Int) ≤ (s.length : Int)), decide_eq_false (by exact_mod_cast h8 : ¬ (s.length : Int) ≤ 8)]
        try simp only [tSeq, tIfS, tNext, tRet, tRetN, tDrop, tAsg, tC, cVar, tOp, tCB, tCons, tNil, tTup, tLst, tIf, tAnd, tOr, tNot, cTest, cTru, oTru, cAnd, cOr, cNot, cUn, cChain, gName, cTupG, gCons, gNil, gSub, oLt, oLtK, oLe, oGt, oGe, oGtK, oGeK, oBor, oIs, oIsNot, oSub, oMul, oFdiv, oMod, oPow, cPar, cPar3, cAug, tDNewK, cCall, cAttr, frzE, List.mem_singleton, List.lookup_cons_self, List.getElem?_cons_zero, List.getElem?_cons_succ, List.set_cons_zero, List.set_cons_succ, Option.some.injEq, reduceCtorEq, if_true, if_false, Bool.true_eq_false, Bool.false_eq_true, decide_eq_true_eq, ite_true, ite_false, ↓reduceIte, List.length_cons, List.length_nil, true_and, and_true, exists_eq_left', exists_eq_left, List.cons.injEq]
        simpa [h8] using h H Ex.refl
    · rw [decide_eq_false (by exact_mod_cast h1 : ¬ (1 : Int) ≤ (s.length : Int))]
      try simp only [tSeq, tIfS, tNext, tRet, tRetN, tDrop, tAsg, tC, cVar, tOp, tCB, tCons, tNil, tTup, tLst, tIf, tAnd, tOr, tNot, cTest, cTru, oTru, cAnd, cOr, cNot, cUn, cChain, gName, cTupG, gCons, gNil, gSub, oLt, oLtK, oLe, oGt, oGe, oGtK, oGeK, oBor, oIs, oIsNot, oSub, oMul, oFdiv, oMod, oPow, cPar, cPar3, cAug, tDNewK, cCall, cAttr, frzE, List.mem_singleton, List.lookup_cons_self, List.getElem?_cons_zero, List.getElem?_cons_succ, List.set_cons_zero, List.set_cons_succ, Option.some.injEq, reduceCtorEq, if_true, if_false, Bool.true_eq_false, Bool.false_eq_true, decide_eq_true_eq, ite_true, ite_false, ↓reduceIte, List.length_cons, List.length_nil, true_and, and_true, exists_eq_left', exists_eq_left, List.cons.injEq]
      simpa [h1] using h H Ex.refl
  | _ =>
    first
      | (simp only [isK, String.reduceEq, decide_false, Bool.false_or, Bool.and_false, oTru, Bool.false_eq_true, if_false]; exact h H Ex.refl)
      | (simp [isK, oTru]; exact h H Ex.refl)
end
end WR.L

set_option Elab.async false
set_option linter.all false
set_option maxRecDepth 100000
set_option maxHeartbeats 4000000
namespace WR.L
open PySem PySem.Spec PyProof.Rows L2
section
variable {K : PySem.W.Frag} {n : Nat} {H H' : Hp} {Q : VK} {E : XK} {v : V} {N : Nat} {m : String}
theorem Kd.int_of (k : Kd H v m) (e : m = "int") : ∃ i, v = .int i := by
  cases k <;> first | exact ⟨_, rfl⟩ | exact absurd e (by decide)
theorem Kd.str_of (k : Kd H v m) (e : m = "str") : ∃ s, v = .str s := by
  cases k <;> first | exact ⟨_, rfl⟩ | exact absurd e (by decide)
def wholeV (lo hi : Int) : V → Bool
  | .int i => decide (lo ≤ i) && decide (i ≤ hi)
  | _ => false
def txC (c : Nat) : Bool := !decide (c < 32) && (!decide (126 < c) && !decide (c = 37))
def okTx (s : Str) : Bool := decide (s.length ≤ 60) && s.cps.toList.all txC
def txV : V → Bool
  | .str s => okTx s
  | _ => false
theorem lt1 {c d : Nat} : decide (([c] : List Nat) < [d]) = decide (c < d) := by
  by_cases h : c < d
  · rw [decide_eq_true h]; exact decide_eq_true (List.Lex.rel h)
  · rw [decide_eq_false h]; refine decide_eq_false fun z => ?_
    cases z with
    | rel z => exact h z
    | cons z => cases z
/-- .. which is no int -/
theorem isK_no {T : String} (hm : m ≠ T) (hb : m = "bool" → T ≠ "int") : isK m T = false := by
  unfold isK
  rw [decide_eq_false hm, Bool.false_or]
  by_cases z : m = "bool"
  · rw [decide_eq_false (hb z), Bool.and_false]
  · rw [decide_eq_false z, Bool.false_and]
theorem wholeV_no {lo hi : Int} (k : Kd H v m) (hm : m ≠ "int") : wholeV lo hi v = false := by
  cases k with
  | int i => exact absurd rfl hm
  | _ => rfl
theorem s_is_whole {lo hi : Int} (k : Kd H v m) (h : Q (.bl (wholeV lo hi v)) H) : SP K (n+1) "is_whole" [v, .int lo, .int hi] H Q E := by
  refine o_is_whole ?_
  simp only [r_is_whole, tSeq, tIfS, tNext, tRet, tRetN, tDrop, tAsg, tC, cVar, tOp, tCB, tCons, tNil, tTup, tLst, tIf, tAnd, tOr, tNot, cTest, cTru, oTru, cAnd, cOr, cNot, cUn, cChain, gName, cTupG, gCons, gNil, gSub, oLt, oLtK, oLe, oGt, oGe, oGtK, oGeK, oBor, oIs, oIsNot, oSub, oMul, oFdiv, oMod, oPow, cPar, cPar3, cAug, tDNewK, cCall, cAttr, frzE, List.mem_singleton, List.lookup_cons_self, List.getElem?_cons_zero, List.getElem?_cons_succ, List.set_cons_zero, List.set_cons_succ, Option.some.injEq, reduceCtorEq, if_true, if_false, Bool.true_eq_false, Bool.false_eq_true, decide_eq_true_eq, ite_true, ite_false, ↓reduceIte, List.length_cons, List.length_nil, true_and, and_true, exists_eq_left', exists_eq_left, List.cons.injEq]
  refine isi_k k (by decide) ?_
  by_cases hi_ : m = "int"
  · subst hi_
    simp only [show isK "int" "int" = true from rfl, oTru]
    refine isi_k k (by decide) ?_
    simp only [show isK "int" "bool" = false from rfl, Bool.not_false, oTru]
    obtain ⟨i, rfl⟩ := k.int_of rfl
    · simp only [tSeq, tIfS, tNext, tRet, tRetN, tDrop, tAsg, tC, cVar, tOp, tCB, tCons, tNil, tTup, tLst, tIf, tAnd, tOr, tNot, cTest, cTru, oTru, cAnd, cOr, cNot, cUn, cChain, gName, cTupG, gCons, gNil, gSub, oLt, oLtK, oLe, oGt, oGe, oGtK, oGeK, oBor, oIs, oIsNot, oSub, oMul, oFdiv, oMod, oPow, cPar, cPar3, cAug, tDNewK, cCall, cAttr, frzE, List.mem_singleton, List.lookup_cons_self, List.getElem?_cons_zero, List.getElem?_cons_succ, List.set_cons_zero, List.set_cons_succ, Option.some.injEq, reduceCtorEq, if_true, if_false, Bool.true_eq_false, Bool.false_eq_true, decide_eq_true_eq, ite_true, ite_false, ↓reduceIte, List.length_cons, List.length_nil, true_and, and_true, exists_eq_left', exists_eq_left, List.cons.injEq]
      unfold wholeV at h
      by_cases a : lo ≤ i
      · simp only [a, decide_true, Bool.true_and] at h ⊢
        exact h
      · simp only [a, decide_false, Bool.false_and] at h ⊢
        exact h
  · rw [wholeV_no k hi_] at h
    by_cases hb : m = "bool"
    · subst hb
      simp only [show isK "bool" "int" = true from rfl, oTru]
      refine isi_k k (by decide) ?_
      simp only [show isK "bool" "bool" = true from rfl, Bool.not_true, oTru, Bool.false_eq_true, if_false]
      exact h
    · simp only [isK_no (m := m) (T := "int") hi_ fun z => absurd z hb, oTru, Bool.false_eq_true, if_false]
      exact h
theorem ole1 {c d : Nat} {s t : Str} (hs : s.cps.toList = [c]) (ht : t.cps.toList = [d]) (q : Q (.bl (!decide (d < c))) H) : oLe (.str s) (.str t) H Q := by
  show Q (.bl (!decide (t.cps.toList < s.cps.toList))) H
  have : decide (t.cps.toList < s.cps.toList) = decide (d < c) := by
    rw [decide_eq_decide, hs, ht]
    constructor
    · intro z
      cases z with
      | rel z => exact z
      | cons z => cases z
    · exact fun z => List.Lex.rel z
  rw [this]
  exact q
theorem ord1 {c : Nat} : bOrd [.str ⟨#[c]⟩] H Q = (((1 : Nat) = 1) ∧ Q (.int (c : Nat)) H) := rfl
theorem str_no (k : Kd H v m) (hm : m ≠ "str") : nmV v = false ∧ txV v = false := by
  cases k with
  | str s => exact absurd rfl hm
  | _ => exact ⟨rfl, rfl⟩
theorem s_is_text (k : Kd H v m) (hs : okSc v ∨ m ≠ "str") (h : ∀ H', Ex H H' → Q (.bl (txV v)) H') : SP K (n+1) "is_text" [v] H Q E := by
  refine o_is_text ?_
  unfold r_is_text
  refine seq_ fun N1 h1 => ifS_ fun A B hA hB => ?_
  simp only [tOr, tNot, cTru, cTest, tSeq, tIfS, tNext, tRet, tRetN, tDrop, tAsg, tC, cVar, tOp, tCB, tCons, tNil, tTup, tLst, tIf, tAnd, tOr, tNot, cTest, cTru, oTru, cAnd, cOr, cNot, cUn, cChain, gName, cTupG, gCons, gNil, gSub, oLt, oLtK, oLe, oGt, oGe, oGtK, oGeK, oBor, oIs, oIsNot, oSub, oMul, oFdiv, oMod, oPow, cPar, cPar3, cAug, tDNewK, cCall, cAttr, frzE, List.mem_singleton, List.lookup_cons_self, List.getElem?_cons_zero, List.getElem?_cons_succ, List.set_cons_zero, List.set_cons_succ, Option.some.injEq, reduceCtorEq, if_true, if_false, Bool.true_eq_false, Bool.false_eq_true, decide_eq_true_eq, ite_true, ite_false, ↓reduceIte, List.length_cons, List.length_nil, true_and, and_true, exists_eq_left', exists_eq_left, List.cons.injEq]
  refine isi_k k (by decide) ?_
  by_cases hm : m = "str"
  · subst hm
    obtain ⟨s, rfl⟩ := k.str_of rfl
    · have hs := sc_len (hs.resolve_right fun z => z rfl)
      simp only [show isK "str" "str" = true from rfl, oTru, Bool.not_true, Bool.false_eq_true, if_false]
      rw [len_str]
      refine ⟨Nat.le_of_lt (small1000 hs), ?_⟩
      simp only [oGtK, oGt]
      have hd : txV (V.str s) = (decide (s.length ≤ 60) && s.cps.toList.all txC) := rfl
      by_cases c60 : s.length ≤ 60
      · rw [if_neg (by omega)]
        refine hB _ ?_
        simp only [tNext]
        refine h1 _ _ ?_
        simp only [tSeq, tIfS, tNext, tRet, tRetN, tDrop, tAsg, tC, cVar, tOp, tCB, tCons, tNil, tTup, tLst, tIf, tAnd, tOr, tNot, cTest, cTru, oTru, cAnd, cOr, cNot, cUn, cChain, gName, cTupG, gCons, gNil, gSub, oLt, oLtK, oLe, oGt, oGe, oGtK, oGeK, oBor, oIs, oIsNot, oSub, oMul, oFdiv, oMod, oPow, cPar, cPar3, cAug, tDNewK, cCall, cAttr, frzE, List.mem_singleton, List.lookup_cons_self, List.getElem?_cons_zero, List.getElem?_cons_succ, List.set_cons_zero, List.set_cons_succ, Option.some.injEq, reduceCtorEq, if_true, if_false, Bool.true_eq_false, Bool.false_eq_true, decide_eq_true_eq, ite_true, ite_false, ↓reduceIte, List.length_cons, List.length_nil, true_and, and_true, exists_eq_left', exists_eq_left, List.cons.injEq]
        refine lc_cps (f := fun c => V.bl (txC c)) hs (fun c H1 R hc e q => ?_) (fun D H' e _ hD => ?_) (fun v => rfl) rfl
        · simp only [cAnd, cChain, tOp, tCB, tCons, tNil, tC, cVar, List.set_cons_zero, List.set_cons_succ, List.getElem?_cons_zero, List.getElem?_cons_succ]
          refine ole1 (c := 32) (d := c) rfl rfl ?_
          unfold txC at q
          by_cases a : c < 32
          · simp only [a, decide_true, Bool.not_true, Bool.false_and] at q ⊢
            simp only [oTru]
            exact q
          · simp only [a, decide_false, Bool.not_false, Bool.true_and] at q ⊢
            refine ole1 (c := c) (d := 126) rfl rfl ?_
            by_cases b : 126 < c
            · simp only [b, decide_true, Bool.not_true, Bool.false_and] at q ⊢
              simp only [oTru]
              exact q
            · simp only [b, decide_false, Bool.not_false, Bool.true_and] at q ⊢
              simp only [oTru]
              rw [ord1]
              refine ⟨rfl, ne_scal rfl rfl rfl ?_⟩
              have : decide (V.int ((c : Nat) : Int) = V.int 37) = decide (c = 37) := by
                by_cases z : c = 37
                · subst z; rfl
                · rw [decide_eq_false z, decide_eq_false fun w => z (by have := V.int.inj w; omega)]
              rw [this]
              exact q
        · refine all_bl hD ?_
          have := h H' e
          rw [hd, decide_eq_true c60, Bool.true_and] at this
          exact this
      · rw [if_pos (by omega)]
        refine hA _ ?_
        simp only [tRet, tC]
        have := h H Ex.refl
        rw [hd, decide_eq_false c60, Bool.false_and] at this
        exact this
  · simp only [isK_no (m := m) (T := "str") hm fun _ => by decide, oTru, Bool.not_false, if_true]
    refine hA _ ?_
    simp only [tRet, tC]
    have := h H Ex.refl
    rw [(str_no k hm).2] at this
    exact this
/-- == [] of a list of signs -/
def okS (s : Str) : Prop := (PyData.str s).canLay0 = true
theorem one_ok {c : Nat} (h : c < 1114112) : okS ⟨#[c]⟩ := by
  show (⟨#[c]⟩ : Str).cps.all (· < 0x110000) = true
  simp
  exact h
theorem dpStrs : ∀ ss : List Str, DpAll K H (ss.map V.str) (ss.map PyData.str)
  | [] => .nil
  | s :: r => .cons (.str s) (dpStrs r)
theorem lay_strs : ∀ {ss : List Str}, (∀ s ∈ ss, okS s) → PyData.canLayAll0 (ss.map PyData.str) = true ∧ PyData.depthAll (ss.map PyData.str) ≤ 1
  | [], h => ⟨rfl, Nat.zero_le _⟩
  | s :: r, h => by
    obtain ⟨h1, h2⟩ := lay_strs (ss := r) fun x hx => h x (List.mem_cons_of_mem _ hx)
    refine ⟨?_, ?_⟩
    · simp only [List.map_cons, PyData.canLayAll0, h1, Bool.and_true]
      exact h s (List.mem_cons_self ..)
    · simp only [List.map_cons, PyData.depthAll]
      exact Nat.max_le.mpr ⟨by simp [PyData.depth], h2⟩
theorem shaped_strs {ss : List Str} (h : ∀ s ∈ ss, okS s) : SeqAt.shaped (.list (ss.map PyData.str)) = true := by
  obtain ⟨h1, h2⟩ := lay_strs h
  unfold SeqAt.shaped
  simp only [PyData.canLay0, PyData.depth, h1, Bool.true_and, decide_eq_true_eq]
  exact decide_eq_true (Nat.succ_le_of_lt (Nat.lt_of_le_of_lt h2 (by decide : 1 < 64)))
theorem eq_nil {a b : Addr} {ss : List Str} {S : Str → XI → Sp} (ha : H a = some (.lst (ss.map V.str))) (hb : H b = some (.lst [])) (h : ∀ s ∈ ss, okS s) (q : Q (.bl ss.isEmpty) H) : oEqG (gg K S) (.ref a) (.ref b) H Q := by
  refine .inl ?_
  unfold oEqG0
  rw [ins_lst (look_of_lst (K := K) ha)]
  refine .inl (.inr ⟨_, _, .lst (.inl (.inl ha)) (dpStrs ss), .lst (.inl (.inl hb)) .nil, shaped_strs h, shaped_strs (ss := []) (fun _ z => nomatch z), ?_⟩)
  have : PyData.eqv (.list (ss.map PyData.str)) (.list []) = ss.isEmpty := by
    cases ss with
    | nil => rfl
    | cons a b => rfl
  rw [this]
  exact q
theorem fil_nil {l : List Nat} {f g : Nat → Bool} (h : ∀ c, f c = !g c) : ((l.filter f).map fun c => (⟨#[c]⟩ : Str)).isEmpty = l.all g := by
  induction l with
  | nil => rfl
  | cons c l ih =>
    rw [List.filter_cons, List.all_cons]
    cases e : g c with
    | true => rw [if_neg (by rw [h, e]; decide)]; simpa using ih
    | false => rw [if_pos (by rw [h, e]; rfl)]; rfl
theorem asc_of {s : Str} (h : okSc (.str s)) : ∀ c ∈ s.cps.toList, c < 1114112 := fun c hc => by
  have := h.2 c hc; omega
end
end WR.L

set_option Elab.async false
set_option linter.all false
set_option maxRecDepth 100000
set_option maxHeartbeats 4000000
namespace WR.L
open PySem PySem.Spec PyProof.Rows L2
theorem tup2_ {K : PySem.W.Frag} {H : Hp} {t : Addr} {i j : Nat} {x y : V} {σ : L2.St} {R : L2.St → Hp → Prop} (h : look K H t = some (.tup [x, y])) (q : R ((σ.set i (some x)).set j (some y)) H) : cTupG K 2 (gCons (gName i) (gCons (gName j) gNil)) (.ref t) σ H R := by
  simp only [cTupG, h, gCons, gName, gNil]
  exact ⟨rfl, _, _, rfl, _, _, rfl, rfl, q⟩
/-- the two sums of a text -/
def mk2 (l : List Nat) : Int × Int := l.foldl (fun (p : Int × Int) (c : Nat) => ((p.1 + (c : Int)) % 251, (p.2 + (p.1 + (c : Int)) % 251) % 251)) (1, 0)
def markF (s : Str) : Int := 256 * (mk2 s.cps.toList).2 + (mk2 s.cps.toList).1
theorem mk2_snoc (l : List Nat) (c : Nat) : mk2 (l ++ [c]) = (((mk2 l).1 + (c : Int)) % 251, ((mk2 l).2 + ((mk2 l).1 + (c : Int)) % 251) % 251) := by
  unfold mk2
  rw [List.foldl_append]
  rfl
theorem mk2_b (l : List Nat) : (0 ≤ (mk2 l).1 ∧ (mk2 l).1 < 251) ∧ 0 ≤ (mk2 l).2 ∧ (mk2 l).2 < 251 := by
  by_cases h : l = []
  · subst h; exact ⟨⟨by decide, by decide⟩, by decide, by decide⟩
  · rw [← List.dropLast_concat_getLast h, mk2_snoc]
    exact ⟨mod_b (by decide), mod_b (by decide)⟩
theorem markF_b (s : Str) : 0 ≤ markF s ∧ markF s ≤ 64250 ∧ markF s % 256 < 251 := by
  have := mk2_b s.cps.toList
  unfold markF
  omega
section
variable {K : PySem.W.Frag} {n : Nat} {H H' : Hp} {Q : VK} {E : XK} {v : V} {N : Nat} {m : String}
theorem ord1' {c : Nat} {R : VK} (q : R (.int (c : Nat)) H) : bOrd [.str ⟨#[c]⟩] H R := ⟨rfl, q⟩
theorem s_mark_of {s : Str} (hs : okTx s = true) (hsc : okSc (.str s)) (h : ∀ H', Ex H H' → Q (.int (markF s)) H') : SP K (n+2) "mark_of" [.str s] H Q E := by
  refine o_mark_of ?_
  unfold r_mark_of
  refine seq_ fun N1 h1 => ifS_ fun A B hA hB => ?_
  simp only [tNot, cTru, cCall, tCons, tNil, cVar, List.getElem?_cons_zero]
  refine ⟨rfl, (by first | rfl | trivial), s_is_text (n := n) (.str s) (.inl hsc) fun H1 e1 => ?_⟩
  simp only [oTru, show txV (V.str s) = true from hs, Bool.not_true, Bool.false_eq_true, if_false]
  refine hB _ ?_
  simp only [tNext]
  refine h1 _ _ (seq_ fun N2 h2 => ?_)
  simp only [tAsg, tTup, tCons, tNil, tC]
  refine ⟨by simp only [sizeLine_eq, List.length_cons, List.length_nil]; omega, fun t ht => ?_⟩
  have e2 : Ex H1 (upd H1 t (.tup [.int 1, .int 0])) := Ex.refl.new ht
  have k2 : (upd H1 t (.tup [.int 1, .int 0])) t = some (.tup [.int 1, .int 0]) := upd_same
  generalize upd H1 t (.tup [.int 1, .int 0]) = H2 at e2 k2 ⊢
  refine tup2_ (look_of_tup k2) (h2 _ _ (seq_ fun N3 h3 => .inl ?_))
  simp only [List.set_cons_zero, List.set_cons_succ]
  simp only [cFor, cIter, frzE, cVar, List.getElem?_cons_zero]
  refine lp_inv (n := s.cps.size) (fun j σ H' => Ex H2 H' ∧ ∃ v1, σ = [some (.str s), v1, some (.int (mk2 (s.cps.toList.take j)).1), some (.int (mk2 (s.cps.toList.take j)).2)]) ?_ ?_ ⟨Ex.refl, none, rfl⟩
  · rintro σ H3 ⟨e3, v1, rfl⟩
    refine ⟨Nat.le_refl _, h3 _ _ ?_⟩
    have e : s.cps.toList.take s.cps.size = s.cps.toList := List.take_of_length_le (by simp)
    rw [e]
    have b := mk2_b s.cps.toList
    simp only [tRet, tOp, tC, cVar, oMul, oAdd, List.getElem?_cons_zero, List.getElem?_cons_succ]
    exact ⟨cmul_of (by decide) (by omega), h _ ((e1.trans e2).trans e3)⟩
  · rintro j σ H3 hj ⟨e3, v1, rfl⟩ R hR
    refine ⟨hj, ?_⟩
    rintro x H4 ⟨rfl, c, hc, rfl⟩
    have e : s.cps.toList[j]? = some c := by simpa using hc
    simp only [gName, List.set_cons_zero, List.set_cons_succ]
    refine seq_ fun N4 h4 => ?_
    simp only [tAsg, tOp, tCB, tCons, tNil, tC, cVar, List.getElem?_cons_zero, List.getElem?_cons_succ]
    refine ord1' ?_
    simp only [oAdd, oMod]
    refine ⟨by decide, h4 _ _ ?_⟩
    simp only [tAsg, tOp, tC, cVar, oAdd, oMod, gName, List.set_cons_zero, List.set_cons_succ, List.getElem?_cons_zero, List.getElem?_cons_succ]
    refine ⟨by decide, hR _ _ ⟨e3, some (.str ⟨#[c]⟩), ?_⟩⟩
    rw [List.take_add_one, e, show (some c).toList = [c] from rfl, mk2_snoc]
/-! ## pieces -/
def pcs (s : Str) : List Str := (List.range ((s.length + 7) / 8)).map fun i => cutS s (some ((0 : Int) + (i : Nat) * 8)) (some ((0 : Int) + (i : Nat) * 8 + 8))
theorem rg8 : ∀ j : Nat, j < 101 → Builtin.Range.rangeSize 0 (j : Int) 8 = (((j + 7) / 8 : Nat) : Int) ∧ Builtin.Range.small 0 (j : Int) 8 = true := by decide +kernel
end
end WR.L

set_option Elab.async false
set_option linter.all false
set_option maxRecDepth 100000
set_option maxHeartbeats 4000000
namespace WR.L
open PySem PySem.Spec PyProof.Rows L2
/-- a refusal -/
def Rf (K : PySem.W.Frag) (H : Hp) (C : Str) (v : V) (E : XK) : Prop := ∀ x H', Ex H H' → H' x = some (.xd [("found", v)]) → E (.ref (He.ga K C)) (some x) H'
/-- a thing of a known kind -/
def Cm (H : Hp) (v : V) : Prop := ∃ m, Kd H v m ∧ (okSc v ∨ m ≠ "str")
theorem Cm.ex {H H' : Hp} {v : V} (x : Ex H H') (h : Cm H v) : Cm H' v := by
  obtain ⟨m, k, c⟩ := h
  exact ⟨m, k.ex x, c⟩
def LET : Str := "abcdefghijklmnopqrstuvwxyz"
def ixL (c : Nat) : Nat := (Builtin.Str.occurrences LET ⟨#[c]⟩ 0 LET.length 1).headD 0
theorem ixL_all : lets.all (fun c => decide (Builtin.Str.occurrences LET ⟨#[c]⟩ 0 LET.length 1 = ixL c :: (Builtin.Str.occurrences LET ⟨#[c]⟩ 0 LET.length 1).tail ∧ ixL c < 26)) = true := by decide +kernel
theorem ixL_ok {c : Nat} (h : c ∈ lets) : (∃ r, Builtin.Str.occurrences LET ⟨#[c]⟩ 0 LET.length 1 = ixL c :: r) ∧ ixL c < 26 := by
  have := of_decide_eq_true (List.all_eq_true.mp ixL_all c h)
  exact ⟨⟨_, this.1⟩, this.2⟩
def plF (l : List Nat) : Int := l.foldl (fun (p : Int) (c : Nat) => (33 * p + (ixL c : Int) + 1) % 256) 7
theorem plF_snoc (l : List Nat) (c : Nat) : plF (l ++ [c]) = (33 * plF l + (ixL c : Int) + 1) % 256 := by
  unfold plF; rw [List.foldl_append]; rfl
theorem plF_b (l : List Nat) : 0 ≤ plF l ∧ plF l < 256 := by
  by_cases h : l = []
  · subst h; exact ⟨by decide, by decide⟩
  · rw [← List.dropLast_concat_getLast h, plF_snoc]
    exact mod_b (by decide)
theorem isNm_lets {s : Str} (h : isNm s = true) : ∀ c ∈ s.cps.toList, c ∈ lets := fun c hc => by
  unfold isNm at h
  simp only [Bool.and_eq_true, List.all_eq_true, decide_eq_true_eq] at h
  exact h.2.2 c hc
theorem lets_small : ∀ c ∈ lets, c < 128 := by decide +kernel
theorem isNm_sc {s : Str} (h : isNm s = true) : okSc (.str s) := by
  refine ⟨?_, fun c hc => lets_small c (isNm_lets h c hc)⟩
  unfold isNm at h
  simp only [Bool.and_eq_true, decide_eq_true_eq] at h
  omega
theorem nmV_str {H : Hp} {v : V} (h : nmV v = true) : ∃ s, v = .str s ∧ isNm s = true := by
  cases v with
  | str s => exact ⟨s, rfl, h⟩
  | _ => cases h
theorem txV_str {v : V} (h : txV v = true) : ∃ s, v = .str s ∧ okTx s = true := by
  cases v with
  | str s => exact ⟨s, rfl, h⟩
  | _ => cases h
theorem whole_int {lo hi : Int} {v : V} (h : wholeV lo hi v = true) : ∃ i, v = .int i ∧ lo ≤ i ∧ i ≤ hi := by
  cases v with
  | int i =>
    have h : (decide (lo ≤ i) && decide (i ≤ hi)) = true := h
    simp only [Bool.and_eq_true, decide_eq_true_eq] at h
    exact ⟨i, rfl, h.1, h.2⟩
  | _ => cases h
theorem txC_small {c : Nat} (h : txC c = true) : c < 128 := by
  unfold txC at h
  simp only [Bool.and_eq_true, Bool.not_eq_true', decide_eq_false_iff_not] at h
  omega
theorem okTx_sc {s : Str} (h : okTx s = true) : okSc (.str s) := by
  unfold okTx at h
  simp only [Bool.and_eq_true, decide_eq_true_eq, List.all_eq_true] at h
  exact ⟨by omega, fun c hc => txC_small (h.2 c hc)⟩
section
variable {K : PySem.W.Frag} {n : Nat} {H H' : Hp} {Q : VK} {E : XK} {v : V} {N : Nat} {m : String}
theorem s_need_name (c : Cm H v) (g : nmV v = true → ∀ H', Ex H H' → Q .non H') (b : nmV v = false → Rf K H "NoName" v E) : SP K (n+2) "need_name" [v] H Q E := by
  obtain ⟨m, k, s⟩ := c
  refine o_need_name ?_
  unfold r_need_name
  refine ifS_ fun A B hA hB => ?_
  simp only [tNot, cTru, cCall, tCons, tNil, cVar, List.getElem?_cons_zero]
  refine ⟨rfl, (by first | rfl | trivial), s_is_name (n := n) k s fun H1 e1 => ?_⟩
  cases e : nmV v with
  | true =>
    simp only [oTru, Bool.not_true, Bool.false_eq_true, if_false]
    refine hB _ ?_
    simp only [tNext]
    exact g e _ e1
  | false =>
    simp only [oTru, Bool.not_false, if_true]
    refine hA _ ?_
    simp only [tRs, tMkX, cVar, List.getElem?_cons_zero]
    exact fun x hx => b e x _ (e1.trans (Ex.refl.new hx)) upd_same
theorem let_index {c : Nat} {W : WX} {i : Nat} {σ : L2.St} {R : VK} (hi : σ[i]? = some (some (.str ⟨#[c]⟩))) (hc : c ∈ lets) (q : R (.int (ixL c : Nat)) H) {S : Str → XI → Sp} : mC (gg K S) "index" 1 0 [] (tC (.str "abcdefghijklmnopqrstuvwxyz")) (tCons (cVar i) tNil) tNil W σ H R := by
  refine mC_blt ?_ fun P P' hh q => mono_C hh q
  obtain ⟨⟨r, hr⟩, _⟩ := ixL_ok hc
  refine ⟨rfl, "str", rfl, _, (by kernel_rfl : (bf K "index").find? (fun b => b.T == "str") = some ⟨"str", "index", "str.index", mIndexS⟩), ?_⟩
  simp only [tCons, tNil, cVar, hi]
  show (match Builtin.Str.occurrences LET ⟨#[c]⟩ 0 LET.length 1 with | i :: _ => R (.int (i : Nat)) H | [] => False)
  rw [hr]
  exact q
theorem s_place_of {s : Str} (hn : isNm s = true) (h : ∀ H', Ex H H' → Q (.int (plF s.cps.toList)) H') : SP K (n+3) "place_of" [.str s] H Q E := by
  refine o_place_of ?_
  unfold r_place_of
  refine seq_ fun N1 h1 => ?_
  simp only [tDrop, cCall, tCons, tNil, cVar, List.getElem?_cons_zero]
  refine ⟨rfl, (by first | rfl | trivial), s_need_name (n := n) ⟨_, .str s, .inl (isNm_sc hn)⟩ (fun _ H1 e1 => ?_) fun z => ?_⟩
  rotate_left
  · rw [show nmV (V.str s) = isNm s from rfl, hn] at z; cases z
  refine h1 _ _ (seq_ fun N2 h2 => ?_)
  simp only [tAsg, tC, gName, List.set_cons_zero, List.set_cons_succ]
  refine h2 _ _ (seq_ fun N3 h3 => .inl ?_)
  simp only [cFor, cIter, frzE, cVar, List.getElem?_cons_zero]
  refine lp_inv (n := s.cps.size) (fun j σ H' => Ex H1 H' ∧ ∃ v2, σ = [some (.str s), some (.int (plF (s.cps.toList.take j))), v2]) ?_ ?_ ⟨Ex.refl, none, rfl⟩
  · rintro σ H3 ⟨e3, v1, rfl⟩
    refine ⟨Nat.le_refl _, h3 _ _ ?_⟩
    have e : s.cps.toList.take s.cps.size = s.cps.toList := List.take_of_length_le (by simp)
    rw [e]
    simp only [tRet, cVar, List.getElem?_cons_zero, List.getElem?_cons_succ]
    exact h _ (e1.trans e3)
  · rintro j σ H3 hj ⟨e3, v1, rfl⟩ R hR
    refine ⟨hj, ?_⟩
    rintro x H4 ⟨rfl, c, hc, rfl⟩
    have e : s.cps.toList[j]? = some c := by simpa using hc
    have b := plF_b (s.cps.toList.take j)
    simp only [gName, tAsg, tOp, tC, cVar, List.set_cons_zero, List.set_cons_succ, List.getElem?_cons_zero, List.getElem?_cons_succ]
    refine ⟨cmul_of (by decide) (by omega), let_index (i := 2) rfl (isNm_lets hn c (List.mem_of_getElem? e)) ?_⟩
    simp only [oAdd, oMod]
    refine ⟨by decide, hR _ _ ⟨e3, some (.str ⟨#[c]⟩), ?_⟩⟩
    rw [List.take_add_one, e, show (some c).toList = [c] from rfl, plF_snoc]
theorem s_piece_place {s : Str} {i : Nat} (hn : isNm s = true) (hi : i < 8) (h : ∀ H', Ex H H' → Q (.int ((plF s.cps.toList + 32 * ((i : Int) + 1)) % 256)) H') : SP K (n+4) "piece_place" [.str s, .int (i : Nat)] H Q E := by
  refine o_piece_place ?_
  unfold r_piece_place
  refine seq_ fun N1 h1 => ?_
  simp only [tDrop, cCall, tCons, tNil, cVar, List.getElem?_cons_zero]
  refine ⟨rfl, (by first | rfl | trivial), s_need_name (n := n + 1) ⟨_, .str s, .inl (isNm_sc hn)⟩ (fun _ H1 e1 => ?_) fun z => ?_⟩
  rotate_left
  · rw [show nmV (V.str s) = isNm s from rfl, hn] at z; cases z
  refine h1 _ _ (seq_ fun N2 h2 => ifS_ fun A B hA hB => ?_)
  simp only [tNot, cTru, cCall, tCons, tNil, tC, tOp, oSub, cVar, List.getElem?_cons_zero, List.getElem?_cons_succ]
  refine ⟨rfl, (by first | rfl | trivial), s_is_whole (n := n + 2) (lo := 0) (hi := 8 - 1) (.int _) ?_⟩
  rw [show wholeV 0 (8 - 1) (V.int (i : Nat)) = true from by
    show (decide ((0 : Int) ≤ (i : Nat)) && decide (((i : Nat) : Int) ≤ 8 - 1)) = true
    rw [decide_eq_true (by omega), decide_eq_true (by omega)]; rfl]
  simp only [oTru, Bool.not_true, Bool.false_eq_true, if_false]
  refine hB _ ?_
  simp only [tNext]
  refine h2 _ _ ?_
  simp only [tRet, cCall, tCons, tNil, tC, tOp, cVar, List.getElem?_cons_zero, List.getElem?_cons_succ]
  refine ⟨rfl, (by first | rfl | trivial), s_place_of (n := n) hn fun H2 e2 => ?_⟩
  simp only [oAdd, oMul, oMod]
  exact ⟨cmul_of (by decide) (by omega), by decide, h _ (e1.trans e2)⟩
theorem s_place_of_no (c : Cm H v) (hn : nmV v = false) (b : Rf K H "NoName" v E) : SP K (n+3) "place_of" [v] H Q E := by
  refine o_place_of ?_
  unfold r_place_of
  refine seq_ fun N1 h1 => ?_
  simp only [tDrop, cCall, tCons, tNil, cVar, List.getElem?_cons_zero]
  refine ⟨rfl, (by first | rfl | trivial), s_need_name (n := n) c (fun z => ?_) fun _ => b⟩
  rw [hn] at z; cases z
theorem s_piece_place_no {w : V} (c : Cm H v) (hn : nmV v = false) (b : Rf K H "NoName" v E) : SP K (n+4) "piece_place" [v, w] H Q E := by
  refine o_piece_place ?_
  unfold r_piece_place
  refine seq_ fun N1 h1 => ?_
  simp only [tDrop, cCall, tCons, tNil, cVar, List.getElem?_cons_zero]
  refine ⟨rfl, (by first | rfl | trivial), s_need_name (n := n + 1) c (fun z => ?_) fun _ => b⟩
  rw [hn] at z; cases z
theorem s_piece_place_bad {s : Str} (hs : isNm s = true) (k : Kd H v m) (hw : wholeV 0 7 v = false) (b : Rf K H "NoPiece" v E) : SP K (n+4) "piece_place" [.str s, v] H Q E := by
  refine o_piece_place ?_
  unfold r_piece_place
  refine seq_ fun N1 h1 => ?_
  simp only [tDrop, cCall, tCons, tNil, cVar, List.getElem?_cons_zero]
  refine ⟨rfl, (by first | rfl | trivial), s_need_name (n := n + 1) ⟨_, .str s, .inl (isNm_sc hs)⟩ (fun _ H1 e1 => ?_) fun z => ?_⟩
  rotate_left
  · rw [show nmV (V.str s) = isNm s from rfl, hs] at z; cases z
  refine h1 _ _ (seq_ fun N2 h2 => ifS_ fun A B hA hB => ?_)
  simp only [tNot, cTru, cCall, tCons, tNil, tC, tOp, oSub, cVar, List.getElem?_cons_zero, List.getElem?_cons_succ]
  refine ⟨rfl, (by first | rfl | trivial), s_is_whole (n := n + 2) (lo := 0) (hi := 8 - 1) (k.ex e1) ?_⟩
  rw [show wholeV 0 (8 - 1) v = false from hw]
  simp only [oTru, Bool.not_false, if_true]
  refine hA _ ?_
  simp only [tRs, tMkX, cVar, List.getElem?_cons_zero, List.getElem?_cons_succ]
  exact fun x hx => b x _ (e1.trans (Ex.refl.new hx)) upd_same
theorem s_mark_of_no (c : Cm H v) (ht : txV v = false) (b : Rf K H "NoText" v E) : SP K (n+2) "mark_of" [v] H Q E := by
  obtain ⟨m, k, s⟩ := c
  refine o_mark_of ?_
  unfold r_mark_of
  refine seq_ fun N1 h1 => ifS_ fun A B hA hB => ?_
  simp only [tNot, cTru, cCall, tCons, tNil, cVar, List.getElem?_cons_zero]
  refine ⟨rfl, (by first | rfl | trivial), s_is_text (n := n) k s fun H1 e1 => ?_⟩
  rw [ht]
  simp only [oTru, Bool.not_false, if_true]
  refine hA _ ?_
  simp only [tRs, tMkX, cVar, List.getElem?_cons_zero]
  exact fun x hx => b x _ (e1.trans (Ex.refl.new hx)) upd_same
end
end WR.L

set_option Elab.async false
set_option linter.all false
set_option maxRecDepth 100000
set_option maxHeartbeats 4000000
namespace WR.L
open PySem PySem.Spec PyProof.Rows L2
section
variable {K : PySem.W.Frag} {n : Nat} {H H' : Hp} {Q : VK} {E : XK} {v w : V} {N : Nat} {m : String}
/-- letters alone -/
def LS (s : Str) : Prop := ∀ c ∈ s.cps.toList, c ∈ lets
theorem app_cps (a b : Str) : (a ++ b).cps.toList = a.cps.toList ++ b.cps.toList := by
  show (a.cps ++ b.cps).toList = _
  simp
theorem len_cps (a : Str) : a.length = a.cps.toList.length := by simp [Str.length]
theorem LS.app {a b : Str} (h : LS a) (k : LS b) : LS (a ++ b) := fun c hc => by
  rw [app_cps, List.mem_append] at hc
  exact hc.elim (h c) (k c)
theorem LS.one {c : Nat} (h : c ∈ lets) : LS ⟨#[c]⟩ := fun d hd => by
  have : d = c := by simpa using hd
  rw [this]; exact h
theorem LS.cut {a : Str} {lo hi : Option Int} (h : LS a) : LS (cutS a lo hi) := fun c hc => by
  unfold cutS at hc
  exact h c (List.mem_of_mem_drop (List.mem_of_mem_take (by simpa using hc)))
theorem LS.nm {s : Str} (h : LS s) (h1 : 1 ≤ s.length) (h2 : s.length ≤ 8) : isNm s = true := by
  unfold isNm
  simp only [h1, h2, decide_true, Bool.true_and, List.all_eq_true, decide_eq_true_eq]
  exact h
theorem cut_len {a : Str} {x y : Nat} (hx : x ≤ y) (hy : y ≤ a.length) : (cutS a (some (x : Int)) (some (y : Int))).length = y - x := by
  rw [len_cps]
  unfold cutS
  rw [HT.sIx_nat, HT.sIx_nat]
  have := len_cps a
  simp only [List.toList_toArray, List.length_take, List.length_drop]
  omega
theorem cut_len0 {a : Str} {y : Nat} (hy : y ≤ a.length) : (cutS a none (some (y : Int))).length = y := by
  rw [len_cps]
  unfold cutS
  rw [HT.sIx_nat, HT.sIx_none]
  have := len_cps a
  simp only [List.toList_toArray, List.length_take, List.length_drop]
  omega
theorem join_one (cs : List Nat) : (Txt.join "" (cs.map fun c => (⟨#[c]⟩ : Str))).cps.toList = cs := by
  show (Builtin.Str.glued "" (cs.map fun c => (⟨#[c]⟩ : Str))).cps.toList = cs
  rw [StrLaws.glued_eq_join]
  induction cs with
  | nil => rfl
  | cons a r ih =>
    cases r with
    | nil => rfl
    | cons b r =>
      show (((⟨#[a]⟩ : Str) ++ "") ++ Str.join "" (List.map (fun c => (⟨#[c]⟩ : Str)) (b :: r))).cps.toList = _
      rw [app_cps, app_cps, ih]
      rfl
theorem sum_le {l : List Str} {b : Nat} (h : ∀ s ∈ l, s.length ≤ b) : (l.map (·.length)).sum ≤ l.length * b := by
  induction l with
  | nil => simp
  | cons x r ih =>
    have h1 := h x (List.mem_cons_self ..)
    have h2 := ih fun s hs => h s (List.mem_cons_of_mem _ hs)
    simp only [List.map_cons, List.sum_cons, List.length_cons, Nat.succ_mul]
    omega
theorem s_cell {a : Addr} {ns : List Int} {j : Nat} (hl : look K H a = some (.lst (ns.map V.int))) (hj : j < 2 ^ 32) (h : ∀ c, Q (.int c) H) : SP K (n+1) "_law_cell" [.ref a, .int j] H Q E :=
  o__law_cell (cell_ok (g := gg K (SPX K n)) rfl hl (by decide) hj h)
/-- a comprehension over range whose items draw from the box -/
theorem lc_box {k : Nat} {b : Addr} {C : Nat → List V → Prop} {i : Nat} {σ : L2.St} {te : TE} (hb : Bx H b N) (hk : k ≤ 900) (hC0 : C 0 [])
    (hgo : ∀ j acc H1 (R : VK), j < k → C j acc → Bx H1 b (N + j) → Fr [b] H H1 → (∀ y H2, C (j + 1) (acc ++ [y]) → Bx H2 b (N + (j + 1)) → Fr [b] H1 H2 → R y H2) → te (σ.set i (some (.int (j : Nat)))) H1 R)
    (h : ∀ D acc H', C k acc → acc.length = k → Bx H' b (N + k) → Fr [b] H H' → H' D = some (.lst acc) → H D = none → Q (.ref D) H') (hw : ∀ v, wipe (σ.set i (some v)) [i] = wipe σ [i]) (hw2 : wipe σ [i] = σ) {D : Addr} (hD : H D = none) :
    ∃ n, lpc (Itr 0 k) (gName i) tYes te [i] σ D Q n 0 (upd H D (.lst [])) := by
  have hbD : b ≠ D := fun z => by
    obtain ⟨_, _, _, e, _⟩ := hb
    rw [z, hD] at e; cases e
  have hbx : ∀ {H1 : Hp} {M : Nat} {o : HO}, Bx H1 b M → Bx (upd H1 D o) b M := fun hx => by
    obtain ⟨a1, a2, a3, e, r⟩ := hx
    exact ⟨a1, a2, a3, by rw [upd_ne hbD]; exact e, r⟩
  have hfr : ∀ {H1 : Hp} {o : HO}, Fr [b] H H1 → Fr [b] H (upd H1 D o) := fun f c o nc e => by
    rw [upd_ne (ne_of_none e hD)]; exact f c o nc e
  refine lpc_inv (n := k) (fun j H' => Fr [b] H H' ∧ Bx H' b (N + j) ∧ ∃ acc, acc.length = j ∧ C j acc ∧ H' D = some (.lst acc)) ?_ ?_ ⟨hfr Fr.refl, hbx hb, [], rfl, hC0, upd_same⟩
  · rintro H1 ⟨f1, b1, acc, hl, c1, k1⟩
    exact ⟨Nat.le_refl _, h D acc H1 c1 hl b1 f1 k1 hD⟩
  · rintro j H1 hj ⟨f1, b1, acc, hl, c1, k1⟩ R hR
    refine ⟨hj, ?_⟩
    intro x H2 hy
    obtain ⟨rfl, rfl⟩ := itr_yld hy
    rw [hw2, show (0 : Int) + (j : Nat) = ((j : Nat) : Int) from by omega]
    refine ⟨(hw _).trans hw2, yes_ ?_⟩
    refine hgo j acc _ _ hj c1 b1 f1 fun y H3 c3 b3 f3 => ?_
    refine ⟨acc, f3 D _ (by simpa using hbD.symm) k1, by rw [hl]; exact small1000 (by omega), hR _ ⟨hfr (f1.trans f3), hbx b3, acc ++ [y], by simp [hl], c3, upd_same⟩⟩
def SIG : Str := " !\"#$&'()*+,-./0123456789:;<=>?@ABCDEFGHIJKLMNOPQRSTUVWXYZ[\\]^_`abcdefghijklmnopqrstuvwxyz{|}~"
theorem sig_all : SIG.cps.toList.all txC = true ∧ SIG.length = 94 := by decide +kernel
/-- a sign that is drawn -/
theorem sig_at {z : Int} (h0 : 0 ≤ z) (h1 : z < 94) (h : ∀ c, txC c = true → Q (.str ⟨#[c]⟩) H) : oIx K (.str SIG) (.int z) H Q := by
  obtain ⟨k, rfl⟩ := Int.eq_ofNat_of_zero_le h0
  have hl : SIG.cps.toList.length = 94 := by rw [lens]; exact sig_all.2
  simp only [oIx]
  refine ⟨by rw [sig_all.2]; exact Nat.le_of_lt (small1000 (by decide)), ?_⟩
  rw [atI_nat, List.getElem?_eq_getElem (show k < SIG.cps.toList.length from by omega)]
  exact h _ (List.all_eq_true.mp sig_all.1 _ (List.getElem_mem _))
theorem join_ {K' : PySem.W.Frag} {a : Str} {ys : List Str} {p : Addr} {R : VK} (h : H p = some (.lst (ys.map V.str))) (hl : (ys.map (·.length)).sum + ys.length * a.length ≤ 16777216) (q : R (.str (Txt.join a ys)) H) : mJoin K' (.str a) [.ref p] H R :=
  ⟨ys, .inl (look_of_lst h), hl, q⟩
theorem sum_signs (cs : List Nat) (h : cs.length ≤ 1000) : ((cs.map fun c => (⟨#[c]⟩ : Str)).map (·.length)).sum + (cs.map fun c => (⟨#[c]⟩ : Str)).length * ("" : Str).length ≤ 16777216 := by
  have := sum_le (l := cs.map fun c => (⟨#[c]⟩ : Str)) (b := 1) fun s hs => by
    obtain ⟨c, _, rfl⟩ := List.mem_map.mp hs
    exact Nat.le_refl _
  have e : ("" : Str).length = 0 := rfl
  rw [e]
  rw [List.length_map] at this ⊢
  omega
theorem s_box {c : Int} (h : ∀ b H', H b = none → Ex H H' → Bx H' b 0 → Q (.ref b) H') : SP K (n+1) "_law_bag" [.int c] H Q E :=
  o__law_bag (box_ok (by decide) h)
theorem s_take {b : Addr} {N : Nat} {many : Int} (hx : Bx H b N) (hN : N < 100000) (h1 : 1 ≤ many) (h2 : many < 2 ^ 60) (h : ∀ r H', 0 ≤ r → r < many → Bx H' b (N + 1) → Fr [b] H H' → Q (.int r) H') : SP K (n+1) "_law_take" [.ref b, .int many] H Q E :=
  o__law_take (take2_ok (K := K) (i := 2) (j := 3) (k1 := 7919) (s1 := 53) (e1 := 5) (m1 := 2147483647) (k2 := 104729) (e2 := 3) (m2 := 2147483587) (d := 16) (.inl ⟨rfl, rfl⟩) hx hN h1 (by omega) (by decide) (by decide) (by decide) (by decide) (by decide) (by decide) (by decide) (by decide) h)
theorem op_ {r : R2} {ta tb : TE} {σ : L2.St} (h : ta σ H fun x H1 => tb σ H1 fun y H2 => r x y H2 Q) : tOp r ta tb σ H Q := h
theorem cb_ {r : RC} {t : TA} {σ : L2.St} (h : t σ H fun xs H1 => r xs H1 Q) : tCB r t σ H Q := h
end
end WR.L

set_option Elab.async false
set_option linter.all false
set_option maxRecDepth 100000
set_option maxHeartbeats 4000000
namespace WR.L
open PySem PySem.Spec PyProof.Rows L2
section
variable {K : PySem.W.Frag} {n : Nat} {H H' : Hp} {Q : VK} {E : XK} {v w : V} {N : Nat} {m : String}
theorem inV_strs {s : Str} {xs : List Str} : inV (.str s) (xs.map V.str) = decide (s ∈ xs) := by
  unfold inV
  rw [List.any_map]
  induction xs with
  | nil => rfl
  | cons x r ih =>
    rw [List.any_cons, ih]
    show ((x == s) || decide (s ∈ r)) = _
    by_cases e : x = s
    · subst e; simp
    · have h2 : ¬ s = x := fun z => e z.symm
      simp [e, h2]
theorem flat_strs {xs : List Str} : (xs.map V.str).all flatV = true := List.all_eq_true.mpr fun v hv => by
  obtain ⟨s, _, rfl⟩ := List.mem_map.mp hv
  rfl
theorem in_strs {p : Addr} {xs : List Str} {s : Str} {b : Bool} (h : look K H p = some (.lst (xs.map V.str))) (q : Q (.bl (b ^^ decide (s ∈ xs))) H) : oIn K b (.str s) (.ref p) H Q := by
  simp only [oIn, h]
  exact .inl ⟨rfl, flat_strs, by rw [inV_strs]; exact q⟩
theorem okS_of {s : Str} (h : ∀ c ∈ s.cps.toList, c < 1114112) : okS s := by
  show s.cps.all (· < 0x110000) = true
  rw [← Array.all_toList, List.all_eq_true]
  intro c hc
  exact decide_eq_true (h c hc)
theorem nm_okS {s : Str} (h : isNm s = true) : okS s := okS_of fun c hc => by
  have := lets_small c (isNm_lets h c hc)
  omega
theorem ne_nil {a b : Addr} {ss : List Str} {S : Str → XI → Sp} (ha : H a = some (.lst (ss.map V.str))) (hb : H b = some (.lst [])) (h : ∀ s ∈ ss, okS s) (q : Q (.bl (!ss.isEmpty)) H) : oNeG (gg K S) (.ref a) (.ref b) H Q := by
  unfold oNeG
  rw [ins_lst (look_of_lst (K := K) ha)]
  refine .inl (.inr ⟨_, _, .lst (.inl (.inl ha)) (dpStrs ss), .lst (.inl (.inl hb)) .nil, shaped_strs h, shaped_strs (ss := []) (fun _ z => nomatch z), ?_⟩)
  have : PyData.eqv (.list (ss.map PyData.str)) (.list []) = ss.isEmpty := by
    cases ss with
    | nil => rfl
    | cons a b => rfl
  rw [this]
  exact q
theorem cut_min {a : Str} {y : Nat} : (cutS a none (some (y : Int))).length = min y a.length := by
  rw [len_cps]
  unfold cutS
  rw [HT.sIx_nat, HT.sIx_none]
  have := len_cps a
  simp only [List.toList_toArray, List.length_take, List.length_drop]
  omega
theorem asg_ {te : TE} {i : Nat} {D : Ends} {σ : L2.St} (h : te σ H fun x H1 => D.nx (σ.set i (some x)) H1) : tAsg te (gName i) D σ H := h
theorem ret_ {te : TE} {D : Ends} {σ : L2.St} (h : te σ H fun x H1 => D.rt x H1) : tRet te D σ H := h
theorem next_ {D : Ends} {σ : L2.St} (h : D.nx σ H) : tNext D σ H := h
theorem drop_ {te : TE} {D : Ends} {σ : L2.St} (h : te σ H fun _ H1 => D.nx σ H1) : tDrop te D σ H := h
theorem test_ {t : TE} {σ : L2.St} {R : Bool → Hp → Prop} (h : t σ H fun x H1 => match x with | .bl b => R b H1 | _ => False) : cTest t σ H R := h
theorem slc_ {r : V → Option Int → Option Int → Hp → VK → Prop} {te : TE} {th : TO} {σ : L2.St} (h : te σ H fun x H1 => th σ H1 fun u H2 => r x none u H2 Q) : tSl r te tNoPart th σ H Q := h
theorem cpt_ {t : TE} {σ : L2.St} {R : Option Int → Hp → Prop} (h : t σ H fun x H1 => match x with | .int i => R (some i) H1 | _ => False) : cPart t σ H R := h
theorem const_ {x : V} {σ : L2.St} (q : Q x H) : tC x σ H Q := q
theorem iff_t {c : Bool} {A B : Prop} (e : c = true) (h : A) : if c = true then A else B := by rw [if_pos e]; exact h
theorem iff_f {c : Bool} {A B : Prop} (e : c = false) (h : B) : if c = true then A else B := by rw [if_neg (by rw [e]; decide)]; exact h
/-- .. with a test and an item that are told -/
theorem lc_filf {i : Nat} {σ : St} {s : Str} {tt : L2.TT} {te : TE} {f : Nat → Bool} {g : Nat → V} (hs : s.length ≤ 1000)
    (hf : ∀ c H1 (R : Bool → Hp → Prop), c ∈ s.cps.toList → Ex H H1 → R (f c) H1 → tt (σ.set i (some (.str ⟨#[c]⟩))) H1 R)
    (hg : ∀ c H1 (R : VK), c ∈ s.cps.toList → Ex H H1 → R (g c) H1 → te (σ.set i (some (.str ⟨#[c]⟩))) H1 R)
    (h : ∀ D H', Ex H H' → H D = none → H' D = some (.lst ((s.cps.toList.filter f).map g)) → Q (.ref D) H') (hw : ∀ v, wipe (σ.set i (some v)) [i] = wipe σ [i]) (hw2 : wipe σ [i] = σ) :
    cLcL (fun σ H R => R (Its s) H) (gName i) tt te [i] σ H Q := by
  refine .inl ?_
  intro D hD
  refine lpc_inv (n := s.cps.size) (fun j H' => Ex H H' ∧ H' D = some (.lst (((s.cps.toList.take j).filter f).map g))) ?_ ?_ ⟨Ex.refl.new hD, by rw [upd_same]; rfl⟩
  · rintro H' ⟨h1, h2⟩
    refine ⟨Nat.le_refl _, h D H' h1 hD ?_⟩
    rw [h2]
    have e : s.cps.toList.take s.cps.size = s.cps.toList := List.take_of_length_le (by simp)
    rw [e]
  · rintro j H' hj ⟨h1, h2⟩ R hR
    refine ⟨hj, ?_⟩
    rintro x H2 ⟨rfl, c, hc, rfl⟩
    rw [hw2]
    have e : s.cps.toList[j]? = some c := by simpa using hc
    refine ⟨(hw _).trans hw2, ?_⟩
    refine hf c _ _ (List.mem_of_getElem? e) h1 ?_
    have ex2 : ∀ x : HO, Ex H (upd H2 D x) := fun x a o e => by
      by_cases hb : a = D
      · subst hb; rw [hD] at e; cases e
      · rw [upd_ne hb]; exact h1 a o e
    cases q : f c with
    | true =>
      simp only [if_true]
      refine hg c _ _ (List.mem_of_getElem? e) h1 ?_
      refine ⟨_, h2, ?_, hR _ ⟨ex2 _, ?_⟩⟩
      · rw [List.length_map]
        have := small1000 hs
        have e : s.cps.toList.length = s.length := lens
        have := List.length_filter_le f (s.cps.toList.take j)
        rw [List.length_take] at this
        omega
      · rw [upd_same, List.take_add_one, e]
        simp [q]
    | false =>
      simp only [Bool.false_eq_true, if_false]
      refine hR _ ⟨h1, ?_⟩
      rw [h2, List.take_add_one, e]
      simp [q]
end
end WR.L

set_option Elab.async false
set_option linter.all false
set_option maxRecDepth 100000
set_option maxHeartbeats 4000000
namespace WR.L
open PySem PySem.Spec PyProof.Rows L2
section
variable {K : PySem.W.Frag} {n : Nat} {H H0 H1 H2 H' : Hp} {Q : VK} {E : XK} {v w : V} {N : Nat} {m : String} {b : Addr}
theorem bx_up {M : Nat} (h : Bx H b N) (l : N ≤ M) : Bx H b M := by
  obtain ⟨a, o, c, e, h1, h2, h3, h4, h5⟩ := h
  exact ⟨a, o, c, e, h1, h2, h3, h4, by omega⟩
theorem let_at {z : Int} (h0 : 0 ≤ z) (h1 : z < 26) (h : ∀ c, c ∈ lets → Q (.str ⟨#[c]⟩) H) : oIx K (.str LET) (.int z) H Q := by
  obtain ⟨k, rfl⟩ := Int.eq_ofNat_of_zero_le h0
  have hl : lets.length = 26 := by decide +kernel
  simp only [oIx]
  refine ⟨by rw [sizeLine_eq]; decide, ?_⟩
  rw [show LET.cps.toList = lets from rfl, atI_nat, List.getElem?_eq_getElem (show k < lets.length from by omega)]
  exact h _ (List.getElem_mem _)
theorem lst_ {ts : TA} {σ : L2.St} (h : ts σ H fun xs H1 => xs.length ≤ sizeLine ∧ ∀ p, H1 p = none → Q (.ref p) (upd H1 p (.lst xs))) : tLst ts σ H Q := h
theorem tup_ {ts : TA} {σ : L2.St} (h : ts σ H fun xs H1 => xs.length ≤ sizeLine ∧ ∀ p, H1 p = none → Q (.ref p) (upd H1 p (.tup xs))) : tTup ts σ H Q := h
theorem bx_ne {x : Addr} (hb : Bx H b N) (h : H x = none) : x ≠ b := fun z => by
  obtain ⟨_, _, _, e, _⟩ := hb
  rw [z, e] at h; cases h
theorem fr_at {o : HO} {p : Addr} (f : Fr [b] H H') (ne : p ≠ b) (h : H p = some o) : H' p = some o := f p o (by simpa using ne) h
theorem idxv {p : Addr} {xs : List V} {j : Nat} {x : V} (h : H p = some (.lst xs)) (e : xs[j]? = some x) (q : Q x H) : oIx K (.ref p) (.int (j : Nat)) H Q := by
  rw [ix_lst (look_of_lst h) (v := x) (by rw [atI_nat, e])]
  exact q
theorem s_key (hb : Bx H b N) (hN : N < 90000) (h : ∀ s H', isNm s = true → Bx H' b (N + 20) → Fr [b] H H' → Q (.str s) H') : SP K (n+2) "_law_key" [.ref b] H Q E := by
  refine o__law_key ?_
  unfold r__law_key
  refine ret_ ?_
  refine mC_blt ?_ fun P P' hh q => mono_C hh q
  refine ⟨rfl, "str", rfl, _, b_join, ?_⟩
  simp only [tCons, tNil]
  refine .inl ?_
  simp only [cLc, cRng1]
  refine cons_ (op_ (const_ (call_ (cva_ rfl (con_ (nil_ (nil_ ⟨rfl, rfl, ?_⟩)))))))
  refine s_take (n := n) (many := 8) hb (by omega) (by decide) (by decide) fun r H1 r0 r1 b1 f1 => ?_
  obtain ⟨size, rfl⟩ := Int.eq_ofNat_of_zero_le r0
  simp only [oAdd]
  refine nil_ ?_
  refine ⟨⟨by omega, by omega⟩, fun D hD => ?_⟩
  rw [show ((1 : Int) + ((size : Nat) : Int)).toNat = size + 1 from by omega]
  refine lc_box (k := size + 1) (b := b) (N := N + 1) (C := fun j acc => ∃ cs : List Nat, cs.length = j ∧ (∀ c ∈ cs, c ∈ lets) ∧ acc = (cs.map fun c => (⟨#[c]⟩ : Str)).map V.str) b1 (by omega) ⟨[], rfl, (fun c z => nomatch z), rfl⟩ ?_ ?_ (fun v => rfl) rfl hD
  · rintro j acc H2 R hj ⟨cs, hl, hc, rfl⟩ b2 f2 q
    refine op_ (const_ (call_ (cva_ rfl (con_ (nil_ (nil_ ⟨rfl, rfl, ?_⟩))))))
    refine s_take (n := n) (many := 26) b2 (by omega) (by decide) (by decide) fun r H3 r0 r1 b3 f3 => ?_
    refine let_at r0 r1 fun c hc' => q _ _ ⟨cs ++ [c], by simp [hl], fun d hd => ?_, by simp⟩ b3 f3
    rcases List.mem_append.mp hd with hd | hd
    · exact hc d hd
    · rw [List.mem_singleton] at hd; subst hd; exact hc'
  · rintro D2 acc H2 ⟨cs, hl, hc, rfl⟩ hal b2 f2 k2 hD2
    refine join_ (ys := cs.map fun c => (⟨#[c]⟩ : Str)) k2 (sum_signs cs (by omega)) ?_
    have hst := join_one cs
    refine h _ _ (LS.nm (fun c hc' => hc c (by rw [hst] at hc'; exact hc')) ?_ ?_) (bx_up b2 (by omega)) (f1.trans f2)
    · rw [len_cps, hst, hl]; omega
    · rw [len_cps, hst, hl]; omega
theorem s_text (hb : Bx H b N) (hN : N < 90000) (h : ∀ s H', okTx s = true → Bx H' b (N + 70) → Fr [b] H H' → Q (.str s) H') : SP K (n+2) "_law_text" [.ref b] H Q E := by
  refine o__law_text ?_
  unfold r__law_text
  refine seq_ fun N1 h1 => ?_
  simp only [tAsg, tC]
  generalize hg : V.str (Str.ofString " !\"#$&'()*+,-./0123456789:;<=>?@ABCDEFGHIJKLMNOPQRSTUVWXYZ[\\]^_`abcdefghijklmnopqrstuvwxyz{|}~") = sv
  have hv : sv = V.str SIG := hg.symm
  simp only [gName, List.set_cons_zero, List.set_cons_succ]
  refine h1 _ _ (seq_ fun N2 h2 => asg_ (op_ (lst_ (con_ (con_ (con_ (cons_ (call_ (cva_ rfl (con_ (nil_ (nil_ ⟨rfl, rfl, ?_⟩))))))))))))
  refine s_take (n := n) (many := 61) hb (by omega) (by decide) (by decide) fun r H1 r0 r1 b1 f1 => ?_
  refine nil_ ⟨by rw [sizeLine_eq]; exact (by decide : 4 ≤ 16777216), fun p hp => call_ (cva_ rfl (con_ (nil_ (nil_ ⟨rfl, rfl, ?_⟩))))⟩
  have pb := bx_ne b1 hp
  have b1' := b1.ex (Ex.refl.new (o := .lst [.int 0, .int 1, .int 60, .int r]) hp)
  have kp : (upd H1 p (.lst [.int 0, .int 1, .int 60, .int r])) p = some (.lst [.int 0, .int 1, .int 60, .int r]) := upd_same
  have fp : Fr [b] H (upd H1 p (.lst [.int 0, .int 1, .int 60, .int r])) := f1.trans (Fr.ex (Ex.refl.new hp))
  generalize upd H1 p (.lst [.int 0, .int 1, .int 60, .int r]) = H2 at b1' kp fp ⊢
  refine s_take (n := n) (many := 4) b1' (by omega) (by decide) (by decide) fun r2 H3 s0 s1 b3 f3 => ?_
  obtain ⟨j, rfl⟩ := Int.eq_ofNat_of_zero_le s0
  have hj : ∃ size : Nat, size ≤ 60 ∧ [V.int 0, .int 1, .int 60, .int r][j]? = some (.int (size : Nat)) := by
    obtain ⟨k, rfl⟩ := Int.eq_ofNat_of_zero_le r0
    match j, s1 with
    | 0, _ => exact ⟨0, by omega, rfl⟩
    | 1, _ => exact ⟨1, by omega, rfl⟩
    | 2, _ => exact ⟨60, by omega, rfl⟩
    | 3, _ => exact ⟨k, by omega, rfl⟩
    | j + 4, z => exact absurd z (by omega)
  obtain ⟨size, hs, ej⟩ := hj
  refine idxv (fr_at f3 pb kp) ej ?_
  refine h2 _ _ ?_
  refine ret_ ?_
  refine mC_blt ?_ fun P P' hh q => mono_C hh q
  refine ⟨rfl, "str", rfl, _, b_join, ?_⟩
  simp only [tCons, tNil]
  refine .inl ?_
  simp only [cLc, cRng1]
  refine cva_ rfl (nil_ ?_)
  refine ⟨⟨by omega, by omega⟩, fun D hD => ?_⟩
  rw [show ((size : Nat) : Int).toNat = size from by omega]
  refine lc_box (k := size) (b := b) (N := N + 2) (C := fun j acc => ∃ cs : List Nat, cs.length = j ∧ (∀ c ∈ cs, txC c = true) ∧ acc = (cs.map fun c => (⟨#[c]⟩ : Str)).map V.str) b3 (by omega) ⟨[], rfl, (fun c z => nomatch z), rfl⟩ ?_ ?_ (fun v => rfl) rfl hD
  · rintro j acc H4 R hj ⟨cs, hl, hc, rfl⟩ b4 f4 q
    refine op_ (var_ (x := sv) rfl (call_ (cva_ rfl (con_ (nil_ (nil_ ⟨rfl, rfl, ?_⟩))))))
    rw [hv]
    refine s_take (n := n) (many := 94) b4 (by omega) (by decide) (by decide) fun r H5 r0 r1 b5 f5 => ?_
    refine sig_at r0 r1 fun c hc' => q _ _ ⟨cs ++ [c], by simp [hl], fun d hd => ?_, by simp⟩ b5 f5
    rcases List.mem_append.mp hd with hd | hd
    · exact hc d hd
    · rw [List.mem_singleton] at hd; subst hd; exact hc'
  · rintro D2 acc H4 ⟨cs, hl, hc, rfl⟩ hal b4 f4 k4 hD2
    refine join_ (ys := cs.map fun c => (⟨#[c]⟩ : Str)) k4 (sum_signs cs (by omega)) ?_
    have hst := join_one cs
    refine h _ _ ?_ (bx_up b4 (by omega)) ((fp.trans f3).trans f4)
    unfold okTx
    rw [len_cps, hst, hl]
    simp only [Bool.and_eq_true, decide_eq_true_eq, List.all_eq_true]
    exact ⟨hs, hc⟩
end
end WR.L

set_option Elab.async false
set_option linter.all false
set_option maxRecDepth 100000
set_option maxHeartbeats 4000000
namespace WR.L
open PySem PySem.Spec PyProof.Rows L2
section
variable {K : PySem.W.Frag}
/-- what the head tells of the written part -/
structure Hx (K : PySem.W.Frag) : Prop where
  xNoName : xcX K (He.ga K "NoName") [(He.ga K "NoName", true), (He.ga K "NoPiece", false), (He.ga K "NoText", false)] [(He.ga K "NoName", true), (He.ga K "NoPiece", false), (He.ga K "NoText", false), (He.ga K "PeerError", true)] = true
  xNoPiece : xcX K (He.ga K "NoPiece") [(He.ga K "NoName", false), (He.ga K "NoPiece", true), (He.ga K "NoText", false)] [(He.ga K "NoName", false), (He.ga K "NoPiece", true), (He.ga K "NoText", false), (He.ga K "PeerError", true)] = true
  xNoText : xcX K (He.ga K "NoText") [(He.ga K "NoName", false), (He.ga K "NoPiece", false), (He.ga K "NoText", true)] [(He.ga K "NoName", false), (He.ga K "NoPiece", false), (He.ga K "NoText", true), (He.ga K "PeerError", true)] = true
theorem hx_of (h : y.ex K = true) : Hx K := by
  simp only [y, Bool.and_eq_true] at h
  obtain ⟨⟨h1, h2⟩, h3⟩ := h
  exact ⟨h1, h2, h3⟩
theorem xcs_all {S : Str → XI → Sp} : (gg K S).xcs = [⟨"NoName", He.ga K "NoName", "found"⟩, ⟨"NoPiece", He.ga K "NoPiece", "found"⟩, ⟨"NoText", He.ga K "NoText", "found"⟩] := by kernel_rfl
end
section
variable {K : PySem.W.Frag} {n : Nat} {H H0 H1 H2 H' : Hp} {Q : VK} {E : XK} {v w : V} {N : Nat} {m : String} {b : Addr}
/-- a flat thing -/
def Fl (H : Hp) (N : Nat) (x : V) : Prop := okSc x ∨ ∃ p, x = .ref p ∧ ((∃ vs, H p = some (.tup vs) ∧ vs.length ≤ 20 ∧ ∀ z ∈ vs, okSc z) ∨ (∃ vs, H p = some (.lst vs) ∧ vs.length ≤ N ∧ ∀ z ∈ vs, okSc z) ∨ ∃ kvs, H p = some (.dK kvs) ∧ kvs.length ≤ N ∧ ∀ kv ∈ kvs, okKv kv)
theorem Fl.th (f : Fl H N v) : Th H N v := by
  rcases f with h | ⟨p, rfl, ⟨vs, hp, hl, ha⟩ | ⟨vs, hp, hl, ha⟩ | ⟨kvs, hp, hl, ha⟩⟩
  · exact .tt (.sc h)
  · exact .tt (.tup hp hl fun z hz => .sc (ha z hz))
  · exact .lst hp hl fun z hz => .sc (ha z hz)
  · exact .dic hp hl ha
theorem Fl.cm (f : Fl H N v) : Cm H v := by
  rcases f with h | ⟨p, rfl, ⟨vs, hp, hl, ha⟩ | ⟨vs, hp, hl, ha⟩ | ⟨kvs, hp, hl, ha⟩⟩
  · obtain ⟨m, k⟩ := sc_kd (H := H) h; exact ⟨m, k, .inl h⟩
  · exact ⟨_, .tup hp, .inr (by decide)⟩
  · exact ⟨_, .lst hp, .inr (by decide)⟩
  · exact ⟨_, .dK hp, .inr (by decide)⟩
theorem Fl.ex (x : Ex H H') (f : Fl H N v) : Fl H' N v := f.imp id fun ⟨p, e, h⟩ => ⟨p, e, h.imp (fun ⟨vs, a, b⟩ => ⟨vs, x _ _ a, b⟩) fun h => h.imp (fun ⟨vs, a, b⟩ => ⟨vs, x _ _ a, b⟩) fun ⟨vs, a, b⟩ => ⟨vs, x _ _ a, b⟩⟩
theorem Th.ins (f : Th H N v) : insOf H v = none := by
  have tre : ∀ {k : Nat}, Tre H k v → insOf H v = none := by
    intro k t
    cases t with
    | sc h => cases v <;> first | rfl | exact h.elim
    | tup h => simp only [insOf, h]
  cases f with
  | tt h => exact tre h
  | lst h => simp only [insOf, h]
  | dic h => simp only [insOf, h]
  | mix h => simp only [insOf, h]
theorem repr_g (f : Th H N v) (hN : N ≤ 30) : ∃ t : Str, ∀ Q : VK, Q (.str t) H → bReprG (gg K (SPX K n)) [v] H Q := by
  obtain ⟨t, ht⟩ := repr_th (K := K) f hN
  refine ⟨t, fun Q q => ?_⟩
  simp only [bReprG, f.ins]
  exact ht Q q
theorem Kd.lst_of (k : Kd H v m) (e : m = "list") : ∃ p vs, v = .ref p ∧ H p = some (.lst vs) := by
  cases k <;> first | (exact absurd e (by decide)) | (rename_i h; exact ⟨_, _, rfl, h⟩)
theorem not_ {t : TE} {σ : L2.St} {R : Bool → Hp → Prop} (h : t σ H fun x H1 => match oTru K x H1 with | some b => R (!b) H1 | none => False) : tNot (cTru K t) σ H R := by
  unfold tNot
  show t σ H fun x H1 => match oTru K x H1 with | some b => R (!b) H1 | none => False
  exact h
theorem s_very (f : Fl H 1 v) (h : ∀ H', Ex H H' → Q (.bl true) H') : SP K (n+1) "_law_very" [v, v] H Q E := by
  refine o__law_very ?_
  unfold r__law_very
  refine seq_ fun N1 h1 => ifS_ fun A B hA hB => ?_
  obtain ⟨t, ht⟩ := repr_g (K := K) (n := n) f.th (by decide)
  refine test_ (op_ (cb_ (cva_ rfl (nil_ (ht _ (cb_ (cva_ rfl (nil_ (ht _ (ne_scal rfl rfl rfl ?_))))))))))
  simp only [decide_true, Bool.not_true, Bool.false_eq_true, if_false]
  refine hB _ (next_ (h1 _ _ (seq_ fun N2 h2 => ifS_ fun A2 B2 hA2 hB2 => ?_)))
  obtain ⟨m, k, _⟩ := f.cm
  refine not_ (cb_ (cva_ rfl (con_ (nil_ (isi_k k (by decide) ?_)))))
  simp only [oTru]
  by_cases hm : m = "list"
  · obtain ⟨p, vs, rfl, kl⟩ := k.lst_of hm
    rw [hm, show isK "list" "list" = true from rfl]
    simp only [Bool.not_true, Bool.false_eq_true, if_false]
    refine hB2 _ (next_ (h2 _ _ ?_))
    obtain ⟨hl, ha⟩ : vs.length ≤ 1 ∧ ∀ z ∈ vs, okSc z := by
      rcases f with z | ⟨p', e, ⟨ws, hp, _⟩ | ⟨ws, hp, hl, ha⟩ | ⟨kvs, hp, _⟩⟩
      · exact z.elim
      · cases e; rw [kl] at hp; cases hp
      · cases e; rw [kl] at hp; cases hp; exact ⟨hl, ha⟩
      · cases e; rw [kl] at hp; cases hp
    refine seq_ fun N3 h3 => drop_ (blt_ rfl (ins_lst (look_of_lst (K := K) kl)) (tyB_lst (look_of_lst kl)) b_append (con_ (nil_ ?_)))
    simp only [mAppend, kl]
    refine ⟨Nat.lt_of_le_of_lt hl (by rw [sizeLine_eq]; decide), h3 _ _ (seq_ fun N4 h4 => asg_ ?_)⟩
    have k2 : upd H p (.lst (vs ++ [.str "late"])) p = some (.lst (vs ++ [.str "late"])) := upd_same
    have th2 : Th (upd H p (.lst (vs ++ [.str "late"]))) 2 (.ref p) := .lst k2 (by simp; omega) fun z hz => by
      rcases List.mem_append.mp hz with hz | hz
      · exact .sc (ha z hz)
      · rw [List.mem_singleton] at hz; subst hz; exact .sc ⟨by decide, by unfold As; decide +kernel⟩
    obtain ⟨t2, ht2⟩ := repr_g (K := K) (n := n) th2 (by decide)
    refine op_ (cb_ (cva_ rfl (nil_ (ht2 _ (cb_ (cva_ rfl (nil_ (ht2 _ (eq_scal rfl rfl rfl ?_)))))))))
    rw [decide_eq_true rfl]
    refine h4 _ _ (seq_ fun N5 h5 => drop_ (blt_ rfl (ins_lst (look_of_lst (K := K) k2)) (tyB_lst (look_of_lst k2)) b_popL (nil_ ?_)))
    have e1 : (vs ++ [V.str "late"])[(vs ++ [V.str "late"]).length - 1]? = some (.str "late") := by simp
    simp only [mPopL, k2, e1, List.dropLast_concat]
    refine h5 _ _ (ret_ (var_ rfl (h _ fun c o e => ?_)))
    by_cases z : c = p
    · subst z
      rw [upd_same, ← e, kl]
    · rw [upd_ne z, upd_ne z]; exact e
  · rw [isK_no hm (fun _ => by decide)]
    simp only [Bool.not_false, if_true]
    exact hA2 _ (ret_ (const_ (h _ Ex.refl)))
end
end WR.L

set_option Elab.async false
set_option linter.all false
set_option maxRecDepth 100000
set_option maxHeartbeats 4000000
namespace WR.L
open PySem PySem.Spec PyProof.Rows L2
section
variable {K : PySem.W.Frag} {n : Nat} {H H0 H1 H2 H' : Hp} {Q : VK} {E : XK} {v w : V} {N : Nat} {m : String} {b : Addr}
/-- the words of a list, as a list of truths beside says -/
theorem lc_hz {p q : Addr} {ws : List Str} {bs : List Bool} {i j : Nat} {σ : L2.St} (hp : H p = some (.lst (ws.map V.str))) (hq : H q = some (.lst (bs.map V.bl))) (hl : ws.length = bs.length) (hs : ws.length ≤ 900)
    (h : ∀ D H', Ex H H' → H D = none → H' D = some (.lst (((ws.zip bs).filter (·.2)).map fun p => V.str p.1)) → Q (.ref D) H')
    (hw : ∀ v w, wipe ((σ.set i (some v)).set j (some w)) [i, j] = wipe σ [i, j]) (hw2 : wipe σ [i, j] = σ) (hi : ∀ v w, ((σ.set i (some v)).set j (some w))[i]? = some (some v)) (hj : ∀ v w, ((σ.set i (some v)).set j (some w))[j]? = some (some w)) {D : Addr} (hD : H D = none) :
    ∃ n, lpc (ItzX K p q) (cTupG K 2 (gCons (gName i) (gCons (gName j) gNil))) (cTru K (cVar j)) (cVar i) [i, j] σ D Q n 0 (upd H D (.lst [])) := by
  refine lpc_inv (n := ws.length) (fun k H' => Ex H H' ∧ H' D = some (.lst ((((ws.zip bs).take k).filter (·.2)).map fun p => V.str p.1))) ?_ ?_ ⟨Ex.refl.new hD, by rw [upd_same]; rfl⟩
  · rintro H1 ⟨x1, k1⟩
    refine ⟨⟨_, _, look_lst (look_of_lst (x1 _ _ hp)), look_lst (look_of_lst (x1 _ _ hq)), by simp⟩, h D H1 x1 hD ?_⟩
    rw [k1, List.take_of_length_le (by simp; omega)]
  · rintro k H1 hk ⟨x1, k1⟩ R hR
    have sp := look_lst (K := K) (look_of_lst (x1 _ _ hp))
    have sq := look_lst (K := K) (look_of_lst (x1 _ _ hq))
    have ew : (ws.map V.str)[k]? = some (.str ws[k]) := by simp [hk]
    have eb : (bs.map V.bl)[k]? = some (.bl (bs[k]'(by omega))) := by simp [show k < bs.length by omega]
    refine ⟨⟨_, _, _, _, sp, sq, ew, eb⟩, ?_⟩
    rintro x H2 ⟨T, y, z, rfl, hT, rfl, f1, f2⟩
    have e1 := f1 _ sp
    have e2 := f2 _ sq
    rw [ew] at e1
    rw [eb] at e2
    cases e1
    cases e2
    rw [hw2]
    have dT : D ≠ T := fun z => by rw [z, hT] at k1; cases k1
    refine tup2_ (look_of_tup upd_same) ⟨(hw _ _).trans hw2, ?_⟩
    refine tru_ (var_ (hj _ _) ?_)
    simp only [oTru]
    have x2 : Ex H (upd H1 T (.tup [.str ws[k], .bl (bs[k]'(by omega))])) := x1.trans (Ex.refl.new hT)
    have k2 : (upd H1 T (.tup [.str ws[k], .bl (bs[k]'(by omega))])) D = some (.lst ((((ws.zip bs).take k).filter (·.2)).map fun p => V.str p.1)) := by rw [upd_ne dT]; exact k1
    generalize upd H1 T (.tup [.str ws[k], .bl (bs[k]'(by omega))]) = H2 at x2 k2 ⊢
    have et : (ws.zip bs).take (k + 1) = (ws.zip bs).take k ++ [(ws[k], bs[k]'(by omega))] := by
      rw [List.take_add_one, List.getElem?_eq_getElem (by simp; omega), List.getElem_zip]
      rfl
    cases c : (bs[k]'(by omega)) with
    | true =>
      simp only [if_true]
      refine var_ (hi _ _) ⟨_, k2, ?_, hR _ ⟨fun a o e => ?_, ?_⟩⟩
      · have l1 := List.length_filter_le (·.2) ((ws.zip bs).take k)
        rw [List.length_map, sizeLine_eq]
        simp only [List.length_take, List.length_zip] at l1
        omega
      · rw [upd_ne (ne_of_none e hD)]; exact x2 a o e
      · rw [upd_same, et, c]; simp
    | false =>
      simp only [Bool.false_eq_true, if_false]
      refine hR _ ⟨x2, ?_⟩
      rw [k2, et, c]; simp
/-- the refusals of this law -/
def isC (C : Str) : Prop := C = "NoName" ∨ C = "NoPiece" ∨ C = "NoText"
def wordC (C : Str) : Str := if C = "NoName" then "name" else if C = "NoPiece" then "piece" else "text"
theorem cls_ (hx : Hx K) {C : Str} (hc : isC C) {S : Str → XI → Sp} : (∃ x ∈ (gg K S).xcs, x.C = He.ga K C ∧ x.f = "found") ∧ excB K (He.ga K C) = true ∧
    PySem.W.kitOne K (.ref (He.ga K C)) (.ref (He.ga K "NoName")) = some (decide (C = "NoName")) ∧ PySem.W.kitOne K (.ref (He.ga K C)) (.ref (He.ga K "NoPiece")) = some (decide (C = "NoPiece")) ∧
    PySem.W.kitOne K (.ref (He.ga K C)) (.ref (He.ga K "NoText")) = some (decide (C = "NoText")) ∧ PySem.W.kitOne K (.ref (He.ga K C)) (.ref (He.ga K "PeerError")) = some true ∧
    PySem.W.exmAny K (.ref (He.ga K C)) [.ref (He.ga K "NoName"), .ref (He.ga K "NoPiece"), .ref (He.ga K "NoText")] = some true := by
  rw [xcs_all]
  rcases hc with rfl | rfl | rfl
  · obtain ⟨a, c, d⟩ := xcX_ok hx.xNoName
    simp only [List.forall_mem_cons] at a c
    refine ⟨⟨_, List.mem_cons_self .., rfl, rfl⟩, d, c.1, c.2.1, c.2.2.1, c.2.2.2.1, ?_⟩
    simp only [PySem.W.exmAny, a.1, a.2.1, a.2.2.1, Bool.or_false, Bool.false_or, Bool.true_or]
  · obtain ⟨a, c, d⟩ := xcX_ok hx.xNoPiece
    simp only [List.forall_mem_cons] at a c
    refine ⟨⟨_, List.mem_cons_of_mem _ (List.mem_cons_self ..), rfl, rfl⟩, d, c.1, c.2.1, c.2.2.1, c.2.2.2.1, ?_⟩
    simp only [PySem.W.exmAny, a.1, a.2.1, a.2.2.1, Bool.or_false, Bool.false_or, Bool.true_or]
  · obtain ⟨a, c, d⟩ := xcX_ok hx.xNoText
    simp only [List.forall_mem_cons] at a c
    refine ⟨⟨_, List.mem_cons_of_mem _ (List.mem_cons_of_mem _ (List.mem_cons_self ..)), rfl, rfl⟩, d, c.1, c.2.1, c.2.2.1, c.2.2.2.1, ?_⟩
    simp only [PySem.W.exmAny, a.1, a.2.1, a.2.2.1, Bool.or_false, Bool.false_or, Bool.true_or]
theorem isx_ {S : Str → XI → Sp} {C : Str} {a c dd : Addr} {i : Nat} {σ : L2.St} {fs : List (Str × V)} {r : Bool} (hi : σ[i]? = some (some (.ref a))) (h1 : ∃ x ∈ (gg K S).xcs, x.C = He.ga K C ∧ x.f = "found") (h2 : excB K (He.ga K C) = true) (h3 : H dd = some (.xd fs))
    (h4 : PySem.W.kitOne K (.ref (He.ga K C)) (.ref c) = some r) (q : Q (.bl r) H) : tCB (rIsX (gg K S) a (.ref (He.ga K C)) (some dd)) (tCons (cVar i) (tCons (tC (.ref c)) tNil)) σ H Q := by
  obtain ⟨x, hx, e, _⟩ := h1
  refine cb_ (cva_ hi (con_ (nil_ ⟨x, hx, c, dd, fs, r, rfl, by rw [e], by rw [e]; exact h2, rfl, h3, by rw [e]; exact h4, q⟩)))
theorem s_kind (hx : Hx K) {C : Str} (hc : isC C) {a dd : Addr} {fs : List (Str × V)} (hd : H dd = some (.xd fs)) (h : ∀ D H', Ex H H' → H D = none → H' D = some (.lst [.str (wordC C), .str "base"]) → Q (.ref D) H') :
    SPX K (n+1) "~_law_kind" (some (a, .ref (He.ga K C), some dd)) [.ref a] H Q E := by
  obtain ⟨c1, c2, c3, c4, c5, c6, _⟩ := cls_ (S := SPX K n) hx hc
  refine oh__law_kind ?_
  unfold rh__law_kind
  refine seq_ fun N1 h1 => asg_ (lst_ ?_)
  refine cons_ (isx_ rfl c1 c2 hd c3 (cons_ (isx_ rfl c1 c2 hd c4 (cons_ (isx_ rfl c1 c2 hd c5 (cons_ (isx_ rfl c1 c2 hd c6 (nil_ ⟨by rw [sizeLine_eq]; exact (by decide : 4 ≤ 16777216), fun p hp => h1 _ _ (ret_ ?_)⟩))))))))
  have x1 : Ex H (upd H p (.lst [.bl (decide (C = "NoName")), .bl (decide (C = "NoPiece")), .bl (decide (C = "NoText")), .bl true])) := Ex.refl.new hp
  have k1 : (upd H p (.lst [.bl (decide (C = "NoName")), .bl (decide (C = "NoPiece")), .bl (decide (C = "NoText")), .bl true])) p = some (.lst ([decide (C = "NoName"), decide (C = "NoPiece"), decide (C = "NoText"), true].map V.bl)) := upd_same
  generalize upd H p (.lst [.bl (decide (C = "NoName")), .bl (decide (C = "NoPiece")), .bl (decide (C = "NoText")), .bl true]) = H1 at x1 k1 ⊢
  simp only [cLc, hZip]
  refine cons_ (lst_ (con_ (con_ (con_ (con_ (nil_ ⟨by rw [sizeLine_eq]; exact (by decide : 4 ≤ 16777216), fun q hq => cva_ rfl (nil_ ?_)⟩))))))
  have x2 : Ex H1 (upd H1 q (.lst [.str "name", .str "piece", .str "text", .str "base"])) := Ex.refl.new hq
  have k2 : (upd H1 q (.lst [.str "name", .str "piece", .str "text", .str "base"])) q = some (.lst ((["name", "piece", "text", "base"] : List Str).map V.str)) := upd_same
  generalize upd H1 q (.lst [.str "name", .str "piece", .str "text", .str "base"]) = H2 at x2 k2 ⊢
  simp only [look_of_lst k2, look_of_lst (x2 _ _ k1)]
  intro D hD
  refine lc_hz k2 (x2 _ _ k1) rfl (by decide) (fun D H3 x3 hD3 k3 => h D H3 ((x1.trans x2).trans x3) (Ex.none (x1.trans x2) hD3) ?_) (fun _ _ => rfl) rfl (fun _ _ => rfl) (fun _ _ => rfl) hD
  rw [k3]
  rcases hc with rfl | rfl | rfl <;> kernel_rfl
end
end WR.L

set_option Elab.async false
set_option linter.all false
set_option maxRecDepth 100000
set_option maxHeartbeats 4000000
namespace WR.L
open PySem PySem.Spec PyProof.Rows L2
section
variable {K : PySem.W.Frag} {n : Nat} {H H0 H1 H2 H' : Hp} {Q : VK} {E : XK} {v w : V} {N : Nat} {m : String} {b : Addr}
/-- what a door does: it refuses v by C -/
def Dr (K : PySem.W.Frag) (n : Nat) (H : Hp) (way : Int) (x y : V) (C : Str) (v : V) : Prop :=
  (way = 0 ∧ ∀ Q E, Rf K H C v E → SP K (n+4) "place_of" [x] H Q E) ∨ (way = 1 ∧ ∀ Q E, Rf K H C v E → SP K (n+4) "mark_of" [x] H Q E) ∨ (way = 2 ∧ ∀ Q E, Rf K H C v E → SP K (n+4) "piece_place" [x, y] H Q E)
theorem s_told (hx : Hx K) {C : Str} (hc : isC C) {way : Int} {x y : V} (hd : Dr K n H way x y C v) (h : ∀ L k H', Ex H H' → H L = none → H' L = some (.lst [.ref k, v]) → H' k = some (.lst [.str (wordC C), .str "base"]) → Q (.ref L) H') : SP K (n+5) "_law_told" [.int way, x, y] H Q E := by
  refine o__law_told ?_
  unfold r__law_told
  refine seq_ fun N1 h1 => ?_
  unfold tTryW
  obtain ⟨c1, c2, _, _, _, _, c7⟩ := cls_ (S := SPX K (n+4)) hx hc
  have go : ∀ (Wt : WX), (∀ d H', Ex H H' → H' d = some (.xd [("found", v)]) → Wt (.ref (He.ga K C)) (some d) [some (.int way), some x, some y, none] H') → (tIfS (cTest (tOp (oEqG (gg K (SPX K (n+4)))) (cVar 0) (tC (.int 0))))
      (tDrop (cCall (SPX K (n+4) "place_of" none) 1 0 (fun vs _ => vs) (tCons (cVar 1) tNil) tNil Wt))
      (tIfS (cTest (tOp (oEqG (gg K (SPX K (n+4)))) (cVar 0) (tC (.int 1))))
      (tDrop (cCall (SPX K (n+4) "mark_of" none) 1 0 (fun vs _ => vs) (tCons (cVar 1) tNil) tNil Wt))
      (tDrop (cCall (SPX K (n+4) "piece_place" none) 2 0 (fun vs _ => vs) (tCons (cVar 1) (tCons (cVar 2) tNil)) tNil Wt)))) { nx := N1, rt := Q } [some (.int way), some x, some y, none] H := by
    intro Wt hW
    have rf : ∀ (E' : XK), (∀ cls d H', E' cls d H' = Wt cls d [some (.int way), some x, some y, none] H') → Rf K H C v E' := fun E' e d H' x k => by rw [e]; exact hW d H' x k
    refine ifS_ fun A B hA hB => test_ (op_ (var_ rfl (const_ (eq_scal rfl rfl rfl ?_))))
    rcases hd with ⟨rfl, hd⟩ | ⟨rfl, hd⟩ | ⟨rfl, hd⟩
    · refine iff_t rfl (hA _ (drop_ (call_ (cva_ rfl (nil_ (nil_ ⟨rfl, rfl, ?_⟩))))))
      exact hd _ _ (rf _ fun _ _ _ => rfl)
    · refine iff_f rfl (hB _ (ifS_ fun A2 B2 hA2 hB2 => test_ (op_ (var_ rfl (const_ (eq_scal rfl rfl rfl ?_))))))
      refine iff_t rfl (hA2 _ (drop_ (call_ (cva_ rfl (nil_ (nil_ ⟨rfl, rfl, ?_⟩))))))
      exact hd _ _ (rf _ fun _ _ _ => rfl)
    · refine iff_f rfl (hB _ (ifS_ fun A2 B2 hA2 hB2 => test_ (op_ (var_ rfl (const_ (eq_scal rfl rfl rfl ?_))))))
      refine iff_f rfl (hB2 _ (drop_ (call_ (cva_ rfl (cva_ rfl (nil_ (nil_ ⟨rfl, rfl, ?_⟩)))))))
      exact hd _ _ (rf _ fun _ _ _ => rfl)
  refine go _ fun d H2 x2 k2 => ?_
  refine ⟨true, c7, fun _ a ha => ?_, fun z => nomatch z⟩
  refine ret_ (lst_ (cons_ (call_ (cva_ rfl (nil_ (nil_ ⟨rfl, rfl, ?_⟩))))))
  refine s_kind (n := n+3) hx hc k2 fun k H3 x3 hk kk => ?_
  refine cons_ ?_
  obtain ⟨x0, hx0, e1, e2⟩ := c1
  refine ⟨rfl, x0, hx0, e2, by rw [e1], d, _, v, rfl, x3 _ _ k2, rfl, nil_ ⟨by rw [sizeLine_eq]; exact (by decide : 2 ≤ 16777216), fun L hL => ?_⟩⟩
  exact h L k _ ((x2.trans x3).new (Ex.none (x2.trans x3) hL)) (Ex.none (x2.trans x3) hL) upd_same (by rw [upd_ne (ne_of_none kk hL)]; exact kk)
end
end WR.L

set_option Elab.async false
set_option linter.all false
set_option maxRecDepth 100000
set_option maxHeartbeats 4000000
namespace WR.L
open PySem PySem.Spec PyProof.Rows L2
section
variable {K : PySem.W.Frag} {n : Nat} {H H0 H1 H2 H' : Hp} {Q : VK} {E : XK} {v w : V} {N : Nat} {m : String} {b : Addr} {p : V → Prop}
/-! ## things that are drawn, of which something is known -/
def BE (H0 : Hp) (p : V → Prop) (te : TE) : Prop := ∀ (σ : L2.St) (H : Hp) (P : VK), Ex H0 H → (∀ x H1, Ex H H1 → Fl H1 1 x → p x → P x H1) → te σ H P
def BL (H0 : Hp) (p : V → Prop) (k : Nat) (ts : TA) : Prop := ∀ (σ : L2.St) (H : Hp) (R : List V → Hp → Prop), Ex H0 H → (∀ xs H1, Ex H H1 → xs.length = k → (∀ x ∈ xs, Fl H1 1 x ∧ p x) → R xs H1) → ts σ H R
theorem BL.nil : BL H0 p 0 tNil := fun σ H R _ h => h [] H Ex.refl rfl (fun x hx => nomatch hx)
theorem BL.cons {te : TE} {ts : TA} {k : Nat} (a : BE H0 p te) (b : BL H0 p k ts) : BL H0 p (k+1) (tCons te ts) := fun σ H R e h => a σ H _ e fun x H1 e1 g px => b σ H1 _ (e.trans e1) fun xs H2 e2 hl hg => h (x :: xs) H2 (e1.trans e2) (by simp [hl]) (fun z hz => by
  rcases List.mem_cons.mp hz with rfl | hz
  · exact ⟨g.ex e2, px⟩
  · exact hg z hz)
theorem BE.sc {x : V} (h : okSc x) (hp : p x) : BE H0 p (tC x) := fun σ H P e q => q x H Ex.refl (.inl h) hp
theorem BE.pure {te : TE} {x : V} (h : okSc x) (hp : p x) (t : ∀ σ H (P : VK), P x H → te σ H P) : BE H0 p te := fun σ H P e q => t σ H P (q x H Ex.refl (.inl h) hp)
theorem BE.tup1 {x : V} (h : okSc x) (hp : ∀ q, p (.ref q)) : BE H0 p (tTup (tCons (tC x) tNil)) := fun σ H P e q => tup_ (con_ (nil_ ⟨by rw [sizeLine_eq]; exact (by decide : 1 ≤ 16777216), fun r hr => q _ _ (Ex.refl.new hr) (.inr ⟨r, rfl, .inl ⟨[x], upd_same, by simp, fun z hz => by rw [List.mem_singleton] at hz; subst hz; exact h⟩⟩) (hp r)⟩))
theorem BE.lst1 {x : V} (h : okSc x) (hp : ∀ q, p (.ref q)) : BE H0 p (tLst (tCons (tC x) tNil)) := fun σ H P e q => lst_ (con_ (nil_ ⟨by rw [sizeLine_eq]; exact (by decide : 1 ≤ 16777216), fun r hr => q _ _ (Ex.refl.new hr) (.inr ⟨r, rfl, .inr (.inl ⟨[x], upd_same, by simp, fun z hz => by rw [List.mem_singleton] at hz; subst hz; exact h⟩)⟩) (hp r)⟩))
theorem BE.d0 (hp : ∀ q, p (.ref q)) : BE H0 p tDNewK := fun σ H P e q r hr => q _ _ (Ex.refl.new hr) (.inr ⟨r, rfl, .inr (.inr ⟨[], upd_same, by simp, fun kv h => nomatch h⟩)⟩) (hp r)
theorem fl_fr (hb : Bx H b N) (f : Fr [b] H H') (g : Fl H 1 v) : Fl H' 1 v := by
  have nb : ∀ {q : Addr} {o : HO}, H q = some o → (∀ a c d, o ≠ .lst [.int a, .int c, .int d]) → q ≠ b := fun e n z => by
    obtain ⟨a, c, d, e2, _⟩ := hb
    rw [z, e2] at e; cases e; exact n _ _ _ rfl
  rcases g with h | ⟨q, rfl, ⟨vs, hp, r⟩ | ⟨vs, hp, hl, ha⟩ | ⟨kvs, hp, r⟩⟩
  · exact .inl h
  · exact .inr ⟨q, rfl, .inl ⟨vs, fr_at f (nb hp fun _ _ _ z => by cases z) hp, r⟩⟩
  · refine .inr ⟨q, rfl, .inr (.inl ⟨vs, fr_at f (nb hp fun a c d z => ?_) hp, hl, ha⟩)⟩
    cases z
    exact absurd hl (by simp)
  · exact .inr ⟨q, rfl, .inr (.inr ⟨kvs, fr_at f (nb hp fun _ _ _ z => by cases z) hp, r⟩)⟩
/-- a list of things, one of them taken -/
theorem pick_ {ts : TA} {k : Nat} {σ : L2.St} {W : WX} {i : Nat} (bl : BL H p k ts) (hk : 1 ≤ k ∧ k ≤ 100) (hb : Bx H b N) (hN : N < 90000) (hi : σ[i]? = some (some (.ref b))) (h : ∀ x H', Fl H' 1 x → p x → Bx H' b (N + 1) → Fr [b] H H' → Q x H') :
    tOp (oIx K) (tLst ts) (cCall (SPX K (n+1) "_law_take" none) 2 0 (fun vs _ => vs) (tCons (cVar i) (tCons (tC (.int (k : Nat))) tNil)) tNil W) σ H Q := by
  refine op_ (lst_ (bl σ H _ Ex.refl fun xs H1 e1 hl hg => ⟨by rw [sizeLine_eq]; omega, fun r hr => call_ (cva_ hi (con_ (nil_ (nil_ ⟨rfl, rfl, ?_⟩))))⟩))
  have x2 : Ex H (upd H1 r (.lst xs)) := e1.new (Ex.none e1 hr)
  have k2 : (upd H1 r (.lst xs)) r = some (.lst xs) := upd_same
  have g2 : ∀ x ∈ xs, Fl (upd H1 r (.lst xs)) 1 x ∧ p x := fun x hx => ⟨(hg x hx).1.ex (Ex.refl.new hr), (hg x hx).2⟩
  have rb : r ≠ b := bx_ne hb (Ex.none e1 hr)
  generalize upd H1 r (.lst xs) = H2 at x2 k2 g2 ⊢
  have b2 := hb.ex x2
  refine s_take (n := n) b2 (by omega) (by omega) (by omega) fun z H3 r0 r1 b3 f3 => ?_
  obtain ⟨j, rfl⟩ := Int.eq_ofNat_of_zero_le r0
  have hj : j < xs.length := by omega
  refine idxv (fr_at f3 rb k2) (List.getElem?_eq_getElem hj) ?_
  obtain ⟨g, px⟩ := g2 _ (List.getElem_mem hj)
  exact h _ _ (fl_fr b2 f3 g) px b3 ((Fr.ex x2).trans f3)
theorem ne_dp {S : Str → XI → Sp} {x y : V} {d e : PyData} (hx : insOf H x = none) (dx : Dp K H x d) (dy : Dp K H y e) (sd : SeqAt.shaped d = true) (se : SeqAt.shaped e = true) (q : Q (.bl (!PyData.eqv d e)) H) : oNeG (gg K S) x y H Q := by
  unfold oNeG
  rw [hx]
  exact .inl (.inr ⟨d, e, dx, dy, sd, se, q⟩)
theorem ne_strs {S : Str → XI → Sp} {a c : Addr} {l : List Str} (hp : H a = some (.lst (l.map V.str))) (hq : H c = some (.lst (l.map V.str))) (ok : ∀ s ∈ l, okS s) (z : Q (.bl false) H) : oNeG (gg K S) (.ref a) (.ref c) H Q := by
  refine ne_dp (ins_lst (look_of_lst (K := K) hp)) (.lst (.inl (.inl hp)) (dpStrs l)) (.lst (.inl (.inl hq)) (dpStrs l)) (shaped_strs ok) (shaped_strs ok) ?_
  rw [SeqAt.eqv_refl _ (SeqAt.canLay_of_shaped (shaped_strs ok))]
  exact z
theorem sc1 {i : Int} (h : i.natAbs < 10 ^ 40) : okSc (.int i) := h
theorem sca {s : Str} (h1 : s.length ≤ 100) (h2 : ∀ c ∈ s.cps.toList, c < 128) : okSc (.str s) := ⟨h1, h2⟩
end
end WR.L

set_option Elab.async false
set_option linter.all false
set_option maxRecDepth 100000
set_option maxHeartbeats 4000000
namespace WR.L
open PySem PySem.Spec PyProof.Rows L2
section
variable {K : PySem.W.Frag} {n : Nat} {H H0 H1 H2 H' : Hp} {Q : VK} {E : XK} {v w : V} {N : Nat} {m : String} {b : Addr}
theorem word_ok {C : Str} (hc : isC C) : ∀ s ∈ ([wordC C, "base"] : List Str), okS s := by
  intro s hs
  refine okS_of fun c hc' => ?_
  have all : (["name", "piece", "text", "base"] : List Str).all (fun s => s.cps.toList.all fun c => decide (c < 1114112)) = true := by decide +kernel
  have hm : s ∈ (["name", "piece", "text", "base"] : List Str) := by
    rcases hc with rfl | rfl | rfl
    · rcases List.mem_cons.mp hs with rfl | hs
      · exact List.mem_cons_self ..
      · exact List.mem_cons_of_mem _ (List.mem_cons_of_mem _ (List.mem_cons_of_mem _ hs))
    · rcases List.mem_cons.mp hs with rfl | hs
      · exact List.mem_cons_of_mem _ (List.mem_cons_self ..)
      · exact List.mem_cons_of_mem _ (List.mem_cons_of_mem _ (List.mem_cons_of_mem _ hs))
    · rcases List.mem_cons.mp hs with rfl | hs
      · exact List.mem_cons_of_mem _ (List.mem_cons_of_mem _ (List.mem_cons_self ..))
      · exact List.mem_cons_of_mem _ (List.mem_cons_of_mem _ (List.mem_cons_of_mem _ hs))
  exact of_decide_eq_true (List.all_eq_true.mp (List.all_eq_true.mp all s hm) c hc')
/-- a row of what is asked -/
structure Row (K : PySem.W.Frag) (n : Nat) (H : Hp) (t : Addr) : Prop where
  ex : ∃ (way : Int) (x y : V) (C : Str) (due : V), isC C ∧ H t = some (.tup [.int way, x, y, .str (wordC C), due]) ∧ Fl H 1 due ∧ ∀ H', Ex H H' → Dr K n H' way x y C due
theorem Row.up (x : Ex H H') {t : Addr} (r : Row K n H t) : Row K n H' t := by
  obtain ⟨way, a, c, C, due, hc, ht, hf, hd⟩ := r.ex
  exact ⟨way, a, c, C, due, hc, x _ _ ht, hf.ex x, fun H2 y => hd H2 (x.trans y)⟩
theorem tup5_ {t : Addr} {i j k l o : Nat} {x y z u w : V} {σ : L2.St} {R : L2.St → Hp → Prop} (h : look K H t = some (.tup [x, y, z, u, w])) (q : R (((((σ.set i (some x)).set j (some y)).set k (some z)).set l (some u)).set o (some w)) H) :
    cTupG K 5 (gCons (gName i) (gCons (gName j) (gCons (gName k) (gCons (gName l) (gCons (gName o) gNil))))) (.ref t) σ H R := by
  simp only [cTupG, h, gCons, gName, gNil]
  exact ⟨rfl, _, _, rfl, _, _, rfl, _, _, rfl, _, _, rfl, _, _, rfl, rfl, q⟩
/-- the loop over the rows -/
theorem rows_loop (hx : Hx K) {W : WX} {D : Ends} {r : Addr} {ts : List Addr} {x0 x1 x2 x3 x4 x5 : Option V} (hr : H r = some (.lst (ts.map V.ref))) (hts : ∀ t ∈ ts, Row K n H t) (hl : ts.length ≤ 100) (h : ∀ σ H', Ex H H' → D.nx σ H') {v6 v7 v8 v9 v10 v11 : Option V} :
    ∃ N, lp (Itl K r) (cTupG K 5 (gCons (gName 6) (gCons (gName 7) (gCons (gName 8) (gCons (gName 9) (gCons (gName 10) gNil))))))
      (tSeq (tAsg (cCall (SPX K (n+5) "_law_told" none) 3 0 (fun vs _ => vs) (tCons (cVar 6) (tCons (cVar 7) (tCons (cVar 8) tNil))) tNil W) (gName 11))
      (tIfS (tOr (cTest (tOp (oNeG (gg K (SPX K (n+5)))) (tOp (oIx K) (cVar 11) (tC (.int 0))) (tLst (tCons (cVar 9) (tCons (tC (.str "base")) tNil))))) (tNot (cTru K (cCall (SPX K (n+5) "_law_very" none) 2 0 (fun vs _ => vs) (tCons (tOp (oIx K) (cVar 11) (tC (.int 1))) (tCons (cVar 10) tNil)) tNil W))))
      (tRet (tC (.bl false)))
      tNext)) D N 0 [x0, x1, x2, x3, x4, x5, v6, v7, v8, v9, v10, v11] H := by
  refine lp_inv (n := ts.length) (fun j σ H' => Ex H H' ∧ ∃ v6 v7 v8 v9 v10 v11, σ = [x0, x1, x2, x3, x4, x5, v6, v7, v8, v9, v10, v11]) ?_ ?_ ⟨Ex.refl, _, _, _, _, _, _, rfl⟩
  · rintro σ H3 ⟨e3, _⟩
    exact ⟨⟨_, look_lst (look_of_lst (e3 _ _ hr)), by simp⟩, h _ _ e3⟩
  · rintro j σ H3 hj ⟨e3, w6, w7, w8, w9, w10, w11, rfl⟩ R hR
    have sq := look_lst (K := K) (look_of_lst (e3 _ _ hr))
    have ej : (ts.map V.ref)[j]? = some (.ref ts[j]) := by simp [hj]
    refine ⟨⟨_, _, sq, ej⟩, ?_⟩
    rintro x H4 ⟨rfl, hy⟩
    have e := hy _ sq
    rw [ej] at e
    cases e
    obtain ⟨way, a, c, C, due, hc, kt, hf, hd⟩ := ((hts _ (List.getElem_mem hj)).up e3).ex
    refine tup5_ (look_of_tup kt) (seq_ fun N1 h1 => asg_ (call_ (cva_ rfl (cva_ rfl (cva_ rfl (nil_ (nil_ ⟨rfl, rfl, ?_⟩)))))))
    refine s_told (n := n) hx hc (hd _ Ex.refl) fun L k H5 e5 hL kL kk => h1 _ _ (ifS_ fun A B hA hB => ?_)
    refine or_ (test_ (op_ (op_ (var_ rfl (const_ (idxv kL (j := 0) rfl (lst_ (cva_ rfl (con_ (nil_ ⟨by rw [sizeLine_eq]; exact (by decide : 2 ≤ 16777216), fun q hq => ?_⟩))))))))))
    have x6 : Ex H5 (upd H5 q (.lst [.str (wordC C), .str "base"])) := Ex.refl.new hq
    have k6 : (upd H5 q (.lst [.str (wordC C), .str "base"])) q = some (.lst (([wordC C, "base"] : List Str).map V.str)) := upd_same
    generalize upd H5 q (.lst [.str (wordC C), .str "base"]) = H6 at x6 k6 ⊢
    refine ne_strs (l := [wordC C, "base"]) (x6 _ _ kk) k6 (word_ok hc) (iff_f rfl ?_)
    refine not_ (call_ (cons_ (op_ (var_ rfl (const_ (idxv (x6 _ _ kL) (j := 1) rfl (cva_ rfl (nil_ (nil_ ⟨rfl, rfl, ?_⟩)))))))))
    refine s_very (n := n+4) (hf.ex (e5.trans x6)) fun H7 e7 => ?_
    simp only [oTru, Bool.not_true, Bool.false_eq_true, if_false]
    exact hB _ (next_ (hR _ _ ⟨e3.trans ((e5.trans x6).trans e7), _, _, _, _, _, _, rfl⟩))
end
end WR.L

set_option Elab.async false
set_option linter.all false
set_option maxRecDepth 100000
set_option maxHeartbeats 4000000
namespace WR.L
open PySem PySem.Spec PyProof.Rows L2
section
variable {K : PySem.W.Frag} {n : Nat} {H H0 H1 H2 H' : Hp} {Q : VK} {E : XK} {v w : V} {N : Nat} {m : String} {b : Addr}
theorem tupE_ {ts : TA} {xs : List V} {σ : L2.St} (t : ∀ R : List V → Hp → Prop, R xs H → ts σ H R) (hl : xs.length ≤ 20) (q : ∀ p H', Ex H H' → H' p = some (.tup xs) → Q (.ref p) H') : tTup ts σ H Q :=
  tup_ (t _ ⟨by rw [sizeLine_eq]; omega, fun p hp => q p _ (Ex.refl.new hp) upd_same⟩)
theorem add_lst {a c : Addr} {xs ys : List V} (ha : H a = some (.lst xs)) (hc : H c = some (.lst ys)) (hl : xs.length + ys.length ≤ 1000) (q : ∀ p H', Ex H H' → H' p = some (.lst (xs ++ ys)) → Q (.ref p) H') : oAdd K (.ref a) (.ref c) H Q := by
  simp only [oAdd, ha, hc]
  exact ⟨by rw [sizeLine_eq]; omega, fun p hp => q p _ (Ex.refl.new hp) upd_same⟩
theorem odd_bl : BL H (fun v => nmV v = false) 9 (tCons (tC (.str "")) (tCons (tC (.str "A")) (tCons (tC (.str "abcdefghi")) (tCons (tC (.str "a b")) (tCons (tC .non) (tCons (tC (.int 7)) (tCons (tC (.bl true)) (tCons (tLst (tCons (tC (.str "a")) tNil)) (tCons tDNewK tNil))))))))) := by
  refine .cons (.sc (sca (by decide) (by decide +kernel)) (by decide +kernel)) (.cons (.sc (sca (by decide) (by decide +kernel)) (by decide +kernel)) (.cons (.sc (sca (by decide) (by decide +kernel)) (by decide +kernel)) (.cons (.sc (sca (by decide) (by decide +kernel)) (by decide +kernel)) (.cons (.sc trivial rfl) (.cons (.sc (sc1 (by decide)) rfl) (.cons (.sc trivial rfl) (.cons (.lst1 (sca (by decide) (by decide +kernel)) fun q => rfl) (.cons (.d0 fun q => rfl) .nil))))))))
theorem bad_bl : BL H (fun v => wholeV 0 7 v = false) 7 (tCons (tC (.int 8)) (tCons (cUn (tC (.int 1))) (tCons (tC (.bl true)) (tCons (tC .non) (tCons (tC (.str "0")) (tCons (tLst (tCons (tC (.int 0)) tNil)) (tCons (tOp oPow (tC (.int 10)) (tC (.int 29))) tNil))))))) := by
  refine .cons (.sc (sc1 (by decide)) (by decide +kernel)) (.cons (.pure (x := .int (-1)) (sc1 (by decide)) (by decide +kernel) fun σ H P q => q) (.cons (.sc trivial rfl) (.cons (.sc trivial rfl) (.cons (.sc (sca (by decide) (by decide +kernel)) rfl) (.cons (.lst1 (sc1 (by decide)) fun q => rfl) (.cons (.pure (x := .int (10 ^ 29)) (sc1 (by decide)) (by decide +kernel) fun σ H P q => ?_) .nil))))))
  simp only [tOp, tC, oPow]
  exact ⟨⟨by omega, by omega, by omega⟩, q⟩
theorem text_bl : BL H (fun v => txV v = false) 9 (tCons (tOp oMul (tC (.str "a")) (tC (.int 61))) (tCons (tC (.str "a\n")) (tCons (tC (.str "\nb")) (tCons (tC .non) (tCons (tC (.int 7)) (tCons (tLst (tCons (tC (.str "a")) tNil)) (tCons (tC (.bl true)) (tCons tDNewK (tCons (tTup (tCons (tC (.str "a")) tNil)) tNil))))))))) := by
  refine .cons (.pure (x := .str (Txt.mul "a" 61)) (sca (by decide +kernel) (by decide +kernel)) (by decide +kernel) fun σ H P q => ?_) (.cons (.sc (sca (by decide) (by decide +kernel)) (by decide +kernel)) (.cons (.sc (sca (by decide) (by decide +kernel)) (by decide +kernel)) (.cons (.sc trivial rfl) (.cons (.sc (sc1 (by decide)) rfl) (.cons (.lst1 (sca (by decide) (by decide +kernel)) fun q => rfl) (.cons (.sc trivial rfl) (.cons (.d0 fun q => rfl) (.cons (.tup1 (sca (by decide) (by decide +kernel)) fun q => rfl) .nil))))))))
  simp only [tOp, tC, oMul]
  exact ⟨by unfold PySem.MulOk; decide +kernel, q⟩
theorem row_nm {t : Addr} {way : Int} {x y : V} (f : Fl H 1 x) (hn : nmV x = false) (hw : way = 0 ∨ way = 2) (k : H t = some (.tup [.int way, x, y, .str "name", x])) : Row K n H t := by
  refine ⟨way, x, y, "NoName", x, .inl rfl, k, f, fun H' e => ?_⟩
  rcases hw with rfl | rfl
  · exact .inl ⟨rfl, fun Q E rf => s_place_of_no (n := n+1) (f.ex e).cm hn rf⟩
  · exact .inr (.inr ⟨rfl, fun Q E rf => s_piece_place_no (n := n) (f.ex e).cm hn rf⟩)
theorem row_tx {t : Addr} {x y : V} (f : Fl H 1 x) (hn : txV x = false) (k : H t = some (.tup [.int 1, x, y, .str "text", x])) : Row K n H t :=
  ⟨1, x, y, "NoText", x, .inr (.inr rfl), k, f, fun H' e => .inr (.inl ⟨rfl, fun Q E rf => s_mark_of_no (n := n+2) (f.ex e).cm hn rf⟩)⟩
theorem row_pc {t : Addr} {s : Str} {y : V} (hs : isNm s = true) (f : Fl H 1 y) (hw : wholeV 0 7 y = false) (k : H t = some (.tup [.int 2, .str s, y, .str "piece", y])) : Row K n H t :=
  ⟨2, .str s, y, "NoPiece", y, .inr (.inl rfl), k, f, fun H' e => .inr (.inr ⟨rfl, fun Q E rf => by
    obtain ⟨m, k, _⟩ := (f.ex e).cm
    exact s_piece_place_bad (n := n) hs k hw rf⟩)⟩
theorem s_refused (hx : Hx K) {s : Str} (hs : isNm s = true) (hb : Bx H b N) (hN : N < 80000) (h : ∀ H', Bx H' b (N + 3) → Fr [b] H H' → Q (.bl true) H') : SP K (n+6) "_law_refused_right" [.ref b, .str s] H Q E := by
  refine o__law_refused_right ?_
  unfold r__law_refused_right
  refine seq_ fun N1 h1 => asg_ (pick_ (n := n+4) odd_bl ⟨by decide, by decide⟩ hb (by omega) rfl fun odd H1 f1 p1 b1 g1 => h1 _ _ (seq_ fun N2 h2 => asg_ ?_))
  refine pick_ (n := n+4) bad_bl ⟨by decide, by decide⟩ b1 (by omega) rfl fun bad H2 f2 p2 b2 g2 => h2 _ _ (seq_ fun N3 h3 => asg_ ?_)
  refine pick_ (n := n+4) text_bl ⟨by decide, by decide⟩ b2 (by omega) rfl fun tx H3 f3 p3 b3 g3 => h3 _ _ (seq_ fun N4 h4 => asg_ ?_)
  have f1' := fl_fr b2 g3 (fl_fr b1 g2 f1)
  have f2' := fl_fr b2 g3 f2
  refine lst_ (cons_ (tupE_ (fun R q => con_ (cva_ rfl (con_ (con_ (cva_ rfl (nil_ q)))))) (by simp) fun t1 H4 e4 k1 => ?_))
  refine cons_ (tupE_ (fun R q => con_ (cva_ rfl (con_ (con_ (cva_ rfl (nil_ q)))))) (by simp) fun t2 H5 e5 k2 => ?_)
  refine cons_ (tupE_ (fun R q => con_ (cva_ rfl (cva_ rfl (con_ (cva_ rfl (nil_ q)))))) (by simp) fun t3 H6 e6 k3 => nil_ ⟨by rw [sizeLine_eq]; exact (by decide : 3 ≤ 16777216), fun r hr => ?_⟩)
  have e7 : Ex H6 (upd H6 r (.lst [.ref t1, .ref t2, .ref t3])) := Ex.refl.new hr
  have k7 : (upd H6 r (.lst [.ref t1, .ref t2, .ref t3])) r = some (.lst [.ref t1, .ref t2, .ref t3]) := upd_same
  generalize upd H6 r (.lst [.ref t1, .ref t2, .ref t3]) = H7 at e7 k7 ⊢
  have x37 : Ex H3 H7 := e4.trans (e5.trans (e6.trans e7))
  have r1 : Row K n H7 t1 := row_nm (f1'.ex x37) p1 (.inl rfl) (e7 _ _ (e6 _ _ (e5 _ _ k1)))
  have r2 : Row K n H7 t2 := row_tx (f3.ex x37) p3 (e7 _ _ (e6 _ _ k2))
  have r3 : Row K n H7 t3 := row_nm (f1'.ex x37) p1 (.inr rfl) (e7 _ _ k3)
  refine h4 _ _ (seq_ fun N5 h5 => .inl ?_)
  simp only [cFor, cIter, frzE]
  refine op_ (var_ rfl (lst_ (cons_ (tupE_ (fun R q => con_ (cva_ rfl (con_ (con_ (cva_ rfl (nil_ q)))))) (by simp) fun t4 H8 e8 k4 => ?_))))
  refine cons_ (tupE_ (fun R q => con_ (cva_ rfl (cva_ rfl (con_ (cva_ rfl (nil_ q)))))) (by simp) fun t5 H9 e9 k5 => nil_ ⟨by rw [sizeLine_eq]; exact (by decide : 2 ≤ 16777216), fun r' hr' => ?_⟩)
  have e10 : Ex H9 (upd H9 r' (.lst [.ref t4, .ref t5])) := Ex.refl.new hr'
  have k10 : (upd H9 r' (.lst [.ref t4, .ref t5])) r' = some (.lst [.ref t4, .ref t5]) := upd_same
  generalize upd H9 r' (.lst [.ref t4, .ref t5]) = H10 at e10 k10 ⊢
  have x710 : Ex H7 H10 := e8.trans (e9.trans e10)
  have r4 : Row K n H10 t4 := row_nm (f1'.ex (x37.trans x710)) p1 (.inr rfl) (e10 _ _ (e9 _ _ k4))
  have r5 : Row K n H10 t5 := row_pc hs (f2'.ex (x37.trans x710)) p2 (e10 _ _ k5)
  refine add_lst (x710 _ _ k7) k10 (by simp) fun r6 H11 e11 k11 => ?_
  have x11 : Ex H3 H11 := (x37.trans x710).trans e11
  simp only [k11, look_of_lst k11]
  refine rows_loop (n := n) (ts := [t1, t2, t3, t4, t5]) hx k11 (fun t ht => ?_) (by simp) fun σ H12 e12 => h5 _ _ (ret_ (const_ (h _ (b3.ex (x11.trans e12)) (((g1.trans g2).trans g3).trans (Fr.ex (x11.trans e12))))))
  simp only [List.mem_cons, List.not_mem_nil, or_false] at ht
  rcases ht with rfl | rfl | rfl | rfl | rfl
  · exact (r1.up x710).up e11
  · exact (r2.up x710).up e11
  · exact (r3.up x710).up e11
  · exact r4.up e11
  · exact r5.up e11
end
end WR.L

set_option Elab.async false
set_option linter.all false
set_option maxRecDepth 100000
set_option maxHeartbeats 4000000
namespace WR.L
open PySem PySem.Spec PyProof.Rows L2
section
variable {K : PySem.W.Frag} {n : Nat} {H H0 H1 H2 H' : Hp} {Q : VK} {E : XK} {v w : V} {N : Nat} {m : String} {b : Addr}
/-! ## the place of a key, reckoned from behind -/
def totF : List Nat → Int
  | [] => 0
  | c :: r => (ixL c : Int) + 1 + 33 * totF r
theorem totF_snoc : ∀ (l : List Nat) (c : Nat), totF (l ++ [c]) = totF l + 33 ^ l.length * ((ixL c : Int) + 1)
  | [], c => by simp [totF]
  | d :: r, c => by
    show (ixL d : Int) + 1 + 33 * totF (r ++ [c]) = (ixL d : Int) + 1 + 33 * totF r + 33 ^ (r.length + 1) * ((ixL c : Int) + 1)
    rw [totF_snoc r c, Int.pow_succ]
    have e : (33 : Int) ^ r.length * 33 * ((ixL c : Int) + 1) = 33 * (33 ^ r.length * ((ixL c : Int) + 1)) := by
      rw [Int.mul_comm ((33 : Int) ^ r.length) 33, Int.mul_assoc]
    rw [e]
    omega
theorem spot_eq (l : List Nat) : (totF l.reverse + 7 * 33 ^ l.length) % 256 = plF l := by
  have key : ∀ r : List Nat, (totF r + 7 * 33 ^ r.length) % 256 = plF r.reverse := by
    intro r
    induction r with
    | nil => rfl
    | cons c r ih =>
      rw [List.reverse_cons, plF_snoc, ← ih]
      show ((ixL c : Int) + 1 + 33 * totF r + 7 * 33 ^ (r.length + 1)) % 256 = _
      rw [Int.pow_succ]
      have e : (7 : Int) * (33 ^ r.length * 33) = 33 * (7 * 33 ^ r.length) := by
        rw [Int.mul_comm ((33 : Int) ^ r.length) 33, ← Int.mul_assoc, ← Int.mul_assoc]; rfl
      rw [e]
      omega
  have z := key l.reverse
  rw [List.reverse_reverse, List.length_reverse] at z
  exact z
theorem pow33 {k : Nat} (h : k ≤ 8) : (33 : Int) ^ k ≤ 33 ^ 8 ∧ (1 : Int) ≤ 33 ^ k := by
  have : ∀ k : Fin 9, (33 : Int) ^ k.val ≤ 33 ^ 8 ∧ (1 : Int) ≤ 33 ^ k.val := by decide
  exact this ⟨k, by omega⟩
theorem s_spot {s : Str} (hn : isNm s = true) (h : ∀ H', Ex H H' → Q (.int (plF s.cps.toList)) H') : SP K (n+1) "_law_spot" [.str s] H Q E := by
  have hl : s.cps.toList.length ≤ 8 := by
    have z := hn
    unfold isNm at z
    simp only [Bool.and_eq_true, decide_eq_true_eq] at z
    rw [lens]; exact z.2.1
  refine o__law_spot ?_
  unfold r__law_spot
  refine seq_ fun N1 h1 => ?_
  refine (show tAsg _ (cTupG K 2 (gCons (gName 2) (gCons (gName 3) gNil))) _ _ _ from tup_ (con_ (con_ (nil_ ⟨by rw [sizeLine_eq]; exact (by decide : 2 ≤ 16777216), fun p hp => tup2_ (look_of_tup upd_same) ?_⟩))))
  have x1 : Ex H (upd H p (.tup [.int 0, .int 1])) := Ex.refl.new hp
  generalize upd H p (.tup [.int 0, .int 1]) = H1 at x1 ⊢
  refine h1 _ _ (seq_ fun N2 h2 => .inl ?_)
  simp only [cFor, cIter, frzE, cRevS]
  refine var_ rfl ?_
  refine ⟨by rw [sizeLine_eq]; rw [← lens]; omega, ?_⟩
  have er : s.cps.toList.reverse.toArray.toList = s.cps.toList.reverse := rfl
  have es : (s.cps.toList.reverse.toArray).size = s.cps.toList.length := by simp
  refine lp_inv (n := s.cps.toList.length) (fun j σ H' => Ex H1 H' ∧ ∃ v1, σ = [some (.str s), v1, some (.int (totF (s.cps.toList.reverse.take j))), some (.int (33 ^ j))]) ?_ ?_ ⟨Ex.refl, none, rfl⟩
  · rintro σ H3 ⟨e3, v1, rfl⟩
    refine ⟨Nat.le_of_eq es, h2 _ _ ?_⟩
    rw [List.take_of_length_le (by simp)]
    refine ret_ (op_ (op_ (var_ rfl (op_ (const_ (var_ rfl ?_))))))
    have p33 := pow33 hl
    simp only [oMul, oAdd, oMod]
    refine ⟨cmul_of (by decide) (by omega), const_ ⟨by decide, ?_⟩⟩
    have z := h _ (x1.trans e3)
    rw [← spot_eq] at z
    exact z
  · rintro j σ H3 hj ⟨e3, v1, rfl⟩ R hR
    refine ⟨by show j < (s.cps.toList.reverse.toArray).size; rw [es]; exact hj, ?_⟩
    rintro x H4 ⟨rfl, c, hc, rfl⟩
    have ec : s.cps.toList.reverse[j]? = some c := by
      have z : (s.cps.toList.reverse.toArray)[j]? = some c := hc
      simpa using z
    have hc' : c ∈ lets := isNm_lets hn c (List.mem_reverse.mp (List.mem_of_getElem? ec))
    have b1 := (ixL_ok hc').2
    have p33 := pow33 (k := j) (by omega)
    refine seq_ fun N3 h3 => asg_ (op_ (var_ rfl (op_ (var_ rfl (op_ (let_index (i := 1) rfl hc' ?_))))))
    refine const_ ?_
    simp only [oAdd, oMul]
    refine ⟨cmul_of (by omega) (by omega), h3 _ _ (asg_ (op_ (var_ rfl (const_ ?_))))⟩
    simp only [oMul]
    refine ⟨cmul_of (by omega) (by decide), hR _ _ ⟨e3, some (.str ⟨#[c]⟩), ?_⟩⟩
    have e5 : (s.cps.toList.reverse.take j).length = j := by
      have z : (s.cps.toList.reverse.toArray).size = s.cps.toList.length := es
      have hj' : j < s.cps.toList.length := by omega
      rw [List.length_take, List.length_reverse]; omega
    rw [List.take_add_one, ec, show (some c).toList = [c] from rfl, totF_snoc, e5, Int.pow_succ]
    rfl
/-! ## the mark of a text, by its sums -/
def sm1 (l : List Nat) : Int := (l.map fun c : Nat => ((c : Nat) : Int)).sum
def sm2 : List Nat → Int
  | [] => 0
  | c :: r => (c : Int) * ((r.length : Int) + 1) + sm2 r
theorem sm1_snoc (l : List Nat) (c : Nat) : sm1 (l ++ [c]) = sm1 l + (c : Int) := by simp [sm1]
theorem sm2_snoc : ∀ (l : List Nat) (c : Nat), sm2 (l ++ [c]) = sm2 l + sm1 l + (c : Int)
  | [], c => by simp [sm2, sm1]
  | d :: r, c => by
    show (d : Int) * (((r ++ [c]).length : Int) + 1) + sm2 (r ++ [c]) = (d : Int) * ((r.length : Int) + 1) + sm2 r + sm1 (d :: r) + (c : Int)
    rw [sm2_snoc r c, show sm1 (d :: r) = (d : Int) + sm1 r by simp [sm1], List.length_append]
    have e : (d : Int) * (((r.length + [c].length : Nat) : Int) + 1) = (d : Int) * ((r.length : Int) + 1) + (d : Int) := by
      rw [show (((r.length + [c].length : Nat) : Int) + 1) = ((r.length : Int) + 1) + 1 by simp, Int.mul_add, Int.mul_one]
    rw [e]
    omega
theorem mk2_sum (l : List Nat) : mk2 l = ((1 + sm1 l) % 251, ((l.length : Int) + sm2 l) % 251) := by
  have key : ∀ r : List Nat, mk2 r.reverse = ((1 + sm1 r.reverse) % 251, ((r.length : Int) + sm2 r.reverse) % 251) := by
    intro r
    induction r with
    | nil => rfl
    | cons c r ih =>
      rw [List.reverse_cons, mk2_snoc, ih, sm1_snoc, sm2_snoc]
      refine Prod.ext ?_ ?_
      · show ((1 + sm1 r.reverse) % 251 + (c : Int)) % 251 = (1 + (sm1 r.reverse + (c : Int))) % 251
        omega
      · show (((r.length : Int) + sm2 r.reverse) % 251 + ((1 + sm1 r.reverse) % 251 + (c : Int)) % 251) % 251 = (((c :: r).length : Int) + (sm2 r.reverse + sm1 r.reverse + (c : Int))) % 251
        rw [List.length_cons]
        omega
  have z := key l.reverse
  rw [List.reverse_reverse, List.length_reverse] at z
  exact z
theorem sm2_sum (l : List Nat) : (l.zipIdx.map fun p => (p.1 : Int) * ((l.length : Int) - (p.2 : Int))).sum = sm2 l := by
  have key : ∀ (l : List Nat) (k : Nat) (n : Int), n = (k : Int) + l.length → ((l.zipIdx k).map fun p => (p.1 : Int) * (n - (p.2 : Int))).sum = sm2 l := by
    intro l
    induction l with
    | nil => intro k n _; rfl
    | cons c r ih =>
      intro k n e
      rw [List.zipIdx_cons, List.map_cons, List.sum_cons, ih (k + 1) n (by rw [e, List.length_cons]; omega)]
      show (c : Int) * (n - (k : Int)) + sm2 r = (c : Int) * ((r.length : Int) + 1) + sm2 r
      rw [show n - (k : Int) = (r.length : Int) + 1 by rw [e, List.length_cons]; omega]
  exact key l 0 _ (by omega)
end
end WR.L

set_option Elab.async false
set_option linter.all false
set_option maxRecDepth 100000
set_option maxHeartbeats 4000000
namespace WR.L
open PySem PySem.Spec PyProof.Rows L2
section
variable {K : PySem.W.Frag} {n : Nat} {H H0 H1 H2 H' : Hp} {Q : VK} {E : XK} {v w : V} {N : Nat} {m : String} {b : Addr}
/-- a comprehension over a text's signs with their numbers: f tells of each -/
theorem lc_enS {i j : Nat} {σ : St} {s : Str} {te : TE} {f : Nat → Nat → V} (hs : s.length ≤ 1000)
    (hf : ∀ (k c : Nat) H1 (R : VK), s.cps.toList[k]? = some c → Ex H H1 → R (f k c) H1 → te ((σ.set i (some (.int (k : Nat)))).set j (some (.str ⟨#[c]⟩))) H1 R)
    (h : ∀ D H', Ex H H' → H D = none → H' D = some (.lst (s.cps.toList.zipIdx.map fun p => f p.2 p.1)) → Q (.ref D) H') (hw : ∀ v w, wipe ((σ.set i (some v)).set j (some w)) [i, j] = wipe σ [i, j]) (hw2 : wipe σ [i, j] = σ) :
    cLcL (fun σ H R => R (IteS s 0) H) (cTupG K 2 (gCons (gName i) (gCons (gName j) gNil))) tYes te [i, j] σ H Q := by
  refine .inl ?_
  intro D hD
  refine lpc_inv (n := s.cps.size) (fun k H' => Ex H H' ∧ H' D = some (.lst (((s.cps.toList.zipIdx).take k).map fun p => f p.2 p.1))) ?_ ?_ ⟨Ex.refl.new hD, by rw [upd_same]; rfl⟩
  · rintro H' ⟨h1, h2⟩
    refine ⟨rfl, h D H' h1 hD ?_⟩
    rw [h2, List.take_of_length_le (by simp)]
  · rintro k H' hk ⟨h1, h2⟩ R hR
    refine ⟨hk, ?_⟩
    rintro x H2 ⟨T, c, rfl, hT, rfl, hc⟩
    rw [hw2]
    have e : s.cps.toList[k]? = some c := by simpa using hc
    have dT : D ≠ T := fun z => by rw [z, hT] at h2; cases h2
    refine tup2_ (look_of_tup upd_same) ⟨(hw _ _).trans hw2, yes_ ?_⟩
    have x2 : Ex H (upd H' T (.tup [.int (0 + (k : Nat)), .str ⟨#[c]⟩])) := h1.trans (Ex.refl.new hT)
    have k2 : (upd H' T (.tup [.int (0 + (k : Nat)), .str ⟨#[c]⟩])) D = some (.lst (((s.cps.toList.zipIdx).take k).map fun p => f p.2 p.1)) := by rw [upd_ne dT]; exact h2
    generalize upd H' T (.tup [.int (0 + (k : Nat)), .str ⟨#[c]⟩]) = H2 at x2 k2 ⊢
    rw [show (0 : Int) + ((k : Nat) : Int) = ((k : Nat) : Int) by omega]
    refine hf k c _ _ e x2 ⟨_, k2, ?_, hR _ ⟨fun a o z => ?_, ?_⟩⟩
    · rw [List.length_map, List.length_take]
      have := small1000 hs
      have e : s.cps.toList.length = s.length := lens
      simp only [List.length_zipIdx]
      omega
    · rw [upd_ne (ne_of_none z hD)]; exact x2 a o z
    · rw [upd_same, List.take_add_one, List.getElem?_zipIdx, e]
      simp
theorem sm_bound {l : List Nat} (h : ∀ c ∈ l, c < 128) : 0 ≤ sm1 l ∧ sm1 l ≤ 128 * l.length := by
  induction l with
  | nil => simp [sm1]
  | cons c r ih =>
    have h1 := h c List.mem_cons_self
    have h2 := ih fun d m => h d (List.mem_cons_of_mem _ m)
    have e : sm1 (c :: r) = (c : Int) + sm1 r := by simp [sm1]
    rw [e, List.length_cons]
    omega
theorem s_lmark {s : Str} (ht : okTx s = true) (h : ∀ H', Ex H H' → Q (.int (markF s)) H') : SP K (n+1) "_law_mark" [.str s] H Q E := by
  have z := ht
  unfold okTx at z
  simp only [Bool.and_eq_true, decide_eq_true_eq, List.all_eq_true] at z
  have hl : s.length ≤ 1000 := by omega
  have hcs : ∀ c ∈ s.cps.toList, c < 128 := fun c m => txC_small (z.2 c m)
  refine o__law_mark ?_
  unfold r__law_mark
  refine seq_ fun N1 h1 => asg_ (op_ (const_ (cb_ (cons_ ?_))))
  refine lc_cps (f := fun c => V.int (c : Nat)) hl (fun c H1 R hc e q => cb_ (cva_ rfl (nil_ (ord1' q)))) (fun D H1 e1' _ k1 => ?_) (fun v => rfl) rfl
  refine nil_ ⟨D, s.cps.toList.map fun c => ((c : Nat) : Int), rfl, look_of_lst (by rw [k1, List.map_map]; rfl), ?_⟩
  simp only [oAdd]
  refine h1 _ _ (seq_ fun N2 h2 => asg_ (op_ (cb_ (cva_ rfl (nil_ ?_)))))
  rw [len_str]
  refine ⟨Nat.le_of_lt (small1000 hl), cb_ (cons_ ?_)⟩
  refine lc_enS (f := fun k c => V.int ((c : Int) * ((s.length : Int) - (k : Int)))) hl (fun k c H2 R hc e q => ?_) (fun D2 H2 e2' _ k2 => ?_) (fun v w => rfl) rfl
  · refine op_ (cb_ (cva_ rfl (nil_ (ord1' (op_ (cb_ (cva_ rfl (nil_ ?_))))))))
    rw [len_str]
    refine ⟨Nat.le_of_lt (small1000 hl), var_ rfl ?_⟩
    simp only [oSub, oMul]
    have hk : k < s.cps.toList.length := (List.getElem?_eq_some_iff.mp hc).1
    have hc' := hcs c (List.mem_of_getElem? hc)
    rw [lens] at hk
    exact ⟨cmul_of (by omega) (by omega), q⟩
  refine nil_ ⟨D2, s.cps.toList.zipIdx.map fun p => (p.1 : Int) * ((s.length : Int) - (p.2 : Int)), rfl, look_of_lst (by rw [k2, List.map_map]; rfl), ?_⟩
  simp only [oAdd]
  refine h2 _ _ (ret_ (op_ (op_ (const_ (op_ (var_ rfl (const_ ?_)))))))
  have e1 : (s.cps.toList.map fun c => ((c : Nat) : Int)).sum = sm1 s.cps.toList := rfl
  have e2 : (s.cps.toList.zipIdx.map fun p => (p.1 : Int) * ((s.length : Int) - (p.2 : Int))).sum = sm2 s.cps.toList := by rw [← lens]; exact sm2_sum _
  simp only [oMod, oMul]
  refine ⟨by decide, cmul_of (by decide) (by omega), op_ (var_ rfl (const_ ?_))⟩
  simp only [oMod, oAdd]
  refine ⟨by decide, ?_⟩
  have z2 := h _ (e1'.trans e2')
  rw [show markF s = 256 * (((s.length : Int) + sm2 s.cps.toList) % 251) + (1 + sm1 s.cps.toList) % 251 by unfold markF; rw [mk2_sum, lens]] at z2
  rw [e1, e2]
  exact z2
end
end WR.L

set_option Elab.async false
set_option linter.all false
set_option maxRecDepth 100000
set_option maxHeartbeats 4000000
namespace WR.L
open PySem PySem.Spec PyProof.Rows L2
section
variable {K : PySem.W.Frag} {n : Nat} {H H0 H1 H2 H' : Hp} {Q : VK} {E : XK} {v w : V} {N : Nat} {m : String} {b : Addr}
/-! ## marks that are unlike -/
theorem sm1_set : ∀ (l : List Nat) (i c : Nat) (h : i < l.length), sm1 (l.set i c) = sm1 l - (l[i] : Int) + (c : Int)
  | d :: r, 0, c, h => by
    simp only [List.set_cons_zero, sm1, List.map_cons, List.sum_cons, List.getElem_cons_zero]
    omega
  | d :: r, i + 1, c, h => by
    have ih := sm1_set r i c (by simpa using h)
    simp only [sm1] at ih
    simp only [List.set_cons_succ, sm1, List.map_cons, List.sum_cons, List.getElem_cons_succ]
    omega
theorem mark_unlike {s t : Str} {i c : Nat} (h : i < s.cps.toList.length) (ht : t.cps.toList = s.cps.toList.set i c) (hs : okTx s = true) (hc : txC c = true) : (decide (V.int (markF t) = V.int (markF s))) = decide (V.str t = V.str s) := by
  have z := hs
  unfold okTx at z
  simp only [Bool.and_eq_true, decide_eq_true_eq, List.all_eq_true] at z
  have hd : txC s.cps.toList[i] = true := z.2 _ (List.getElem_mem h)
  have bnd : ∀ {c : Nat}, txC c = true → 32 ≤ c ∧ c ≤ 126 := by
    intro c h
    unfold txC at h
    simp only [Bool.and_eq_true, Bool.not_eq_true', decide_eq_false_iff_not] at h
    omega
  have b1 := bnd hc
  have b2 := bnd hd
  have e := sm1_set _ i c h
  have m1 : ∀ s : Str, markF s = 256 * (((s.cps.toList.length : Int) + sm2 s.cps.toList) % 251) + (1 + sm1 s.cps.toList) % 251 := fun s => by unfold markF; rw [mk2_sum]
  by_cases q : s.cps.toList[i] = c
  · have e1 : t = s := by
      have e2 : t.cps.toList = s.cps.toList := by rw [ht, ← q]; exact List.set_getElem_self h
      obtain ⟨⟨a⟩⟩ := t
      obtain ⟨⟨d⟩⟩ := s
      exact congrArg (fun l : List Nat => (⟨⟨l⟩⟩ : Str)) e2
    rw [e1]; simp
  · have n1 : t ≠ s := fun z => q (by
      have e3 : s.cps.toList.set i c = s.cps.toList := by rw [← ht, z]
      have e2 : (s.cps.toList.set i c)[i]? = some c := List.getElem?_set_self h
      rw [e3, List.getElem?_eq_getElem h] at e2
      exact Option.some.inj e2)
    have n2 : markF t ≠ markF s := by
      rw [m1, m1, ht, e]
      omega
    rw [decide_eq_false (fun z => n2 (V.int.inj z)), decide_eq_false (fun z => n1 (V.str.inj z))]
theorem cut_pre (s : Str) (i : Nat) : (cutS s none (some (i : Int))).cps.toList = s.cps.toList.take i := by
  have hl := len_cps s
  unfold cutS
  rw [HT.sIx_nat, HT.sIx_none]
  simp only [List.toList_toArray, List.drop_zero, Nat.sub_zero]
  by_cases q : i ≤ s.length
  · rw [Nat.min_eq_left q]
  · rw [Nat.min_eq_right (by omega), List.take_of_length_le (by omega), List.take_of_length_le (by omega)]
theorem cut_suf (s : Str) (i : Nat) : (cutS s (some (i : Int)) none).cps.toList = s.cps.toList.drop i := by
  have hl := len_cps s
  unfold cutS
  rw [HT.sIx_nat, HT.sIx_none]
  simp only [List.toList_toArray]
  by_cases q : i ≤ s.length
  · rw [Nat.min_eq_left q, List.take_of_length_le (by rw [List.length_drop]; omega)]
  · rw [Nat.min_eq_right (by omega), List.drop_of_length_le (by omega), List.drop_of_length_le (by omega), List.take_nil]
def nearF (s : Str) (i : Nat) (c : Nat) : Str := cutS s none (some (i : Int)) ++ (⟨#[c]⟩ : Str) ++ cutS s (some ((i : Int) + 1)) none
theorem near_cps (s : Str) (i c : Nat) : (nearF s i c).cps.toList = s.cps.toList.take i ++ [c] ++ s.cps.toList.drop (i + 1) := by
  unfold nearF
  rw [app_cps, app_cps, cut_pre, show (i : Int) + 1 = ((i + 1 : Nat) : Int) by omega, cut_suf]
theorem near_set {s : Str} {i c : Nat} (h : i < s.cps.toList.length) : (nearF s i c).cps.toList = s.cps.toList.set i c := by
  rw [near_cps, List.set_eq_take_append_cons_drop, if_pos h, List.append_assoc]
  rfl
theorem near_len {s : Str} {i c : Nat} (h : (nearF s i c).length = s.length) (hi : i ≤ s.length) : i < s.cps.toList.length := by
  have hl := len_cps s
  rw [len_cps, near_cps] at h
  simp only [List.length_append, List.length_take, List.length_drop, List.length_cons, List.length_nil] at h
  omega
theorem near_ok {s : Str} {i c : Nat} (hs : okTx s = true) (hc : txC c = true) (h : i < s.cps.toList.length) : okTx (nearF s i c) = true := by
  unfold okTx at hs ⊢
  simp only [Bool.and_eq_true, decide_eq_true_eq, List.all_eq_true] at hs ⊢
  refine ⟨by rw [len_cps, near_set h, List.length_set, lens]; exact hs.1, fun d hd => ?_⟩
  rw [near_set h] at hd
  rcases List.mem_or_eq_of_mem_set hd with z | z
  · exact hs.2 d z
  · rw [z]; exact hc
theorem sign_at {z : Int} (h0 : 0 ≤ z) (h1 : z < 4) (h : ∀ c, txC c = true → Q (.str ⟨#[c]⟩) H) : oIx K (.str "!~ a") (.int z) H Q := by
  obtain ⟨k, rfl⟩ := Int.eq_ofNat_of_zero_le h0
  have hl : ("!~ a" : Str).cps.toList.length = 4 := by decide +kernel
  have ha : ("!~ a" : Str).cps.toList.all txC = true := by decide +kernel
  simp only [oIx]
  refine ⟨by rw [sizeLine_eq]; decide +kernel, ?_⟩
  rw [atI_nat, List.getElem?_eq_getElem (show k < ("!~ a" : Str).cps.toList.length from by omega)]
  exact h _ (List.all_eq_true.mp ha _ (List.getElem_mem _))
theorem plf_bnd (l : List Nat) : 0 ≤ plF l ∧ plF l < 256 := plF_b l
theorem repr_i {i : Int} (hi : i.natAbs < 10 ^ 40) : ∃ t : Str, ∀ (H : Hp) (Q : VK), Q (.str t) H → bReprG (gg K (SPX K n)) [.int i] H Q := by
  refine ⟨PyData.shown (.int i), fun H Q q => ?_⟩
  obtain ⟨d, hd, sw⟩ := sc_dx (K := K) (H := H) (v := .int i) hi
  cases hd
  simp only [bReprG, insOf]
  exact repr_d (.int _) sw (by decide) (by decide) q
theorem ne_repr {i : Int} {ta tb : TE} {σ : L2.St} {R : Bool → Hp → Prop} (hi : i.natAbs < 10 ^ 40) (ha : ∀ (H1 : Hp) (P : VK), Ex H H1 → (∀ H2, Ex H1 H2 → P (.int i) H2) → ta σ H1 P) (hb : ∀ (H1 : Hp) (P : VK), Ex H H1 → (∀ H2, Ex H1 H2 → P (.int i) H2) → tb σ H1 P)
    (h : ∀ H', Ex H H' → R false H') : cTest (tOp (oNeG (gg K (SPX K n))) (tCB (bReprG (gg K (SPX K n))) (tCons ta tNil)) (tCB (bReprG (gg K (SPX K n))) (tCons tb tNil))) σ H R := by
  obtain ⟨t, ht⟩ := repr_i (K := K) (n := n) hi
  refine test_ (op_ (cb_ (cons_ (ha _ _ Ex.refl fun H1 e1 => nil_ (ht _ _ (cb_ (cons_ (hb _ _ e1 fun H2 e2 => nil_ (ht _ _ (ne_scal rfl rfl rfl ?_))))))))))
  rw [decide_eq_true rfl]
  exact h _ (e1.trans e2)
end
end WR.L

set_option Elab.async false
set_option linter.all false
set_option maxRecDepth 100000
set_option maxHeartbeats 4000000
namespace WR.L
open PySem PySem.Spec PyProof.Rows L2
section
variable {K : PySem.W.Frag} {n : Nat} {H H0 H1 H2 H' : Hp} {Q : VK} {E : XK} {v w : V} {N : Nat} {m : String} {b : Addr}
theorem slr_ {r : V → Option Int → Option Int → Hp → VK → Prop} {te : TE} {tl : TO} {σ : L2.St} (h : te σ H fun x H1 => tl σ H1 fun l H2 => r x l none H2 Q) : tSl r te tl tNoPart σ H Q := h
theorem mark_nat {s : Str} : (markF s).natAbs < 10 ^ 40 := by
  have z := markF_b s
  omega
theorem pl_nat {l : List Nat} : (plF l).natAbs < 10 ^ 40 := by
  have z := plF_b l
  omega
theorem ne_ints {S : Str → XI → Sp} {a c : Addr} {l : List Int} (hp : H a = some (.lst (l.map V.int))) (hq : H c = some (.lst (l.map V.int))) (z : Q (.bl false) H) (sd : SeqAt.shaped (.list (l.map PyData.int)) = true) (dp : DpAll K H (l.map V.int) (l.map PyData.int)) : oNeG (gg K S) (.ref a) (.ref c) H Q := by
  refine ne_dp (ins_lst (look_of_lst (K := K) hp)) (.lst (.inl (.inl hp)) dp) (.lst (.inl (.inl hq)) dp) sd sd ?_
  rw [SeqAt.eqv_refl _ (SeqAt.canLay_of_shaped sd)]
  exact z
theorem s_law {a : Addr} {ns : List Int} {ob : Obj} (hx : Hx K) (ha : H a = some (.frz ob (.lst (ns.map V.int)))) (hns : ns.length ≤ 63) (h : ∀ H', Q (.bl true) H') : SP K (n+7) "law" [.ref a] H Q E := by
  refine o_law ?_
  unfold r_law
  refine seq_ fun N1 h1 => .inl ?_
  simp only [cFor, cRng1]
  refine cons_ (cb_ (con_ (cons_ (cb_ (con_ (cons_ (cb_ (cva_ rfl (nil_ ?_)))))))))
  rw [len_lst rfl (xs := ns.map V.int) (by unfold look; rw [ha])]
  refine nil_ ?_
  simp only [bMin]
  refine nil_ ?_
  simp only [bMax]
  refine nil_ ?_
  dsimp only
  generalize hcnt : (if (if ((ns.map V.int).length : Int) < (12 : Int) then ((ns.map V.int).length : Int) else (12 : Int)) > 3 then (if ((ns.map V.int).length : Int) < (12 : Int) then ((ns.map V.int).length : Int) else (12 : Int)) else 3) = cnt
  have cb : 0 ≤ cnt ∧ cnt ≤ 12 := by
    rw [← hcnt]
    split
    · split
      · exact ⟨by omega, by omega⟩
      · exact ⟨by omega, by omega⟩
    · exact ⟨by omega, by omega⟩
  refine ⟨⟨by omega, by omega⟩, ?_⟩
  refine lp_inv (n := cnt.toNat) (fun j σ H' => (∃ v1 v2 v3 v4 v5 v6 v7 v8, σ = [some (.ref a), v1, v2, v3, v4, v5, v6, v7, v8]) ∧ H' a = some (.frz ob (.lst (ns.map V.int)))) ?_ ?_ ⟨⟨_, _, _, _, _, _, _, _, rfl⟩, ha⟩
  · rintro σ H1 ⟨⟨v1, v2, v3, v4, v5, v6, v7, v8, rfl⟩, ha1⟩
    exact ⟨Nat.le_refl _, h1 _ _ (ret_ (const_ (h _)))⟩
  rintro j σ H1 hj ⟨⟨v1, v2, v3, v4, v5, v6, v7, v8, rfl⟩, ha1⟩ R hR
  refine ⟨hj, ?_⟩
  intro x H1' hy
  obtain ⟨rfl, rfl⟩ := itr_yld hy
  rw [show (0 : Int) + (j : Nat) = ((j : Nat) : Int) from by omega]
  simp only [gName, List.set_cons_zero, List.set_cons_succ]
  refine seq_ fun N2 h2 => asg_ (call_ (cons_ (call_ (cva_ rfl (cva_ rfl (nil_ (nil_ ⟨rfl, rfl, ?_⟩)))))))
  refine s_cell (n := n + 5) (j := j) (ns := ns) (by unfold look; rw [ha1]) (by omega) fun c => nil_ (nil_ ⟨rfl, rfl, ?_⟩)
  refine s_box (n := n + 5) fun b H2 hb0 e2 b2 => h2 _ _ (seq_ fun N3 h3 => ?_)
  have ab : a ≠ b := ne_of_none ha1 hb0
  have ha2 := e2 _ _ ha1
  simp only [cPar]
  refine cons_ (call_ (cva_ rfl (nil_ (nil_ ⟨rfl, rfl, ?_⟩))))
  refine s_key (n := n + 4) b2 (by omega) fun key H3 hk b3 f3 => cons_ (call_ (cva_ rfl (nil_ (nil_ ⟨rfl, rfl, ?_⟩))))
  refine s_text (n := n + 4) b3 (by omega) fun tx H4 ht b4 f4 => nil_ ?_
  dsimp only
  refine h3 _ _ (seq_ fun N4 h4 => asg_ (call_ (cva_ rfl (cons_ (op_ (cb_ (cva_ rfl (nil_ ?_))))))))
  have htl : tx.length ≤ 60 := by
    have z := ht
    unfold okTx at z
    simp only [Bool.and_eq_true, decide_eq_true_eq] at z
    exact z.1
  rw [len_str]
  refine ⟨Nat.le_of_lt (small1000 (by omega)), const_ ?_⟩
  simp only [oAdd]
  refine nil_ (nil_ ⟨rfl, rfl, ?_⟩)
  refine s_take (n := n + 5) (many := (tx.length : Int) + 1) b4 (by omega) (by omega) (by omega) fun r H5 r0 r1 b5 f5 => h4 _ _ (seq_ fun N5 h5 => asg_ (op_ (op_ ?_)))
  obtain ⟨at_, rfl⟩ := Int.eq_ofNat_of_zero_le r0
  have hat : at_ ≤ tx.length := by omega
  refine slc_ (var_ rfl (cpt_ (var_ rfl ?_)))
  simp only [oSl]
  refine ⟨by rw [sizeLine_eq]; omega, op_ (const_ (call_ (cva_ rfl (con_ (nil_ (nil_ ⟨rfl, rfl, ?_⟩))))))⟩
  refine s_take (n := n + 5) (many := 4) b5 (by omega) (by omega) (by omega) fun z H6 z0 z1 b6 f6 => ?_
  refine sign_at z0 z1 fun c hc => ?_
  simp only [oAdd]
  have c1 : (cutS tx none (some (at_ : Int))).length ≤ tx.length := by rw [cut_min]; omega
  have lp : ∀ p q : Str, (p ++ q).length = p.length + q.length := fun p q => by rw [len_cps, app_cps, List.length_append, ← len_cps, ← len_cps]
  have l1 : (⟨#[c]⟩ : Str).length = 1 := rfl
  refine ⟨by rw [sizeLine_eq]; omega, ?_⟩
  refine slr_ (var_ rfl (cpt_ (op_ (var_ rfl (const_ ?_)))))
  simp only [oAdd, oSl]
  refine ⟨by rw [sizeLine_eq]; omega, ?_⟩
  have c2 : (cutS tx (some ((at_ : Int) + 1)) none).length ≤ tx.length := by
    rw [show (at_ : Int) + 1 = ((at_ + 1 : Nat) : Int) by omega, len_cps, cut_suf, List.length_drop, ← len_cps]
    omega
  refine ⟨by rw [lp, sizeLine_eq]; omega, h5 _ _ (seq_ fun N6 h6 => .inl ?_)⟩
  rw [show cutS tx none (some (at_ : Int)) ++ (⟨#[c]⟩ : Str) ++ cutS tx (some ((at_ : Int) + 1)) none = nearF tx at_ c from rfl]
  simp only [cFor, cRng1]
  refine cons_ (const_ (nil_ ⟨by decide, ?_⟩))
  refine lp_inv (n := 2) (fun k σ H' => (∃ v5 v8, σ = [some (.ref a), some (.int (j : Nat)), some (.ref b), some (.int (at_ : Nat)), some (.str (nearF tx at_ c)), v5, some (.str key), some (.str tx), v8]) ∧ Ex H6 H') ?_ ?_ ⟨⟨_, _, rfl⟩, Ex.refl⟩
  · rintro σ H7 ⟨⟨v5, v8, rfl⟩, e7⟩
    refine ⟨Nat.le_refl _, h6 _ _ ?_⟩
    refine ifS_ fun A B hA hB => or_ ?_
    refine test_ (op_ (lst_ (con_ (con_ (con_ (con_ (nil_ ⟨by rw [sizeLine_eq]; exact (by decide : 4 ≤ 16777216), fun p hp => ?_⟩)))))))
    refine lst_ (con_ (con_ (con_ (con_ (nil_ ⟨by rw [sizeLine_eq]; exact (by decide : 4 ≤ 16777216), fun q hq => ?_⟩)))))
    have kq : (upd (upd H7 p (.lst [.int 8, .int 12, .int 8, .int 4])) q (.lst [.int 8, .int 12, .int 8, .int 4])) q = some (.lst ([8, 12, 8, 4].map V.int)) := upd_same
    have eq : Ex (upd H7 p (.lst [.int 8, .int 12, .int 8, .int 4])) (upd (upd H7 p (.lst [.int 8, .int 12, .int 8, .int 4])) q (.lst [.int 8, .int 12, .int 8, .int 4])) := Ex.refl.new hq
    have kp : (upd (upd H7 p (.lst [.int 8, .int 12, .int 8, .int 4])) q (.lst [.int 8, .int 12, .int 8, .int 4])) p = some (.lst ([8, 12, 8, 4].map V.int)) := eq _ _ upd_same
    have x7 : Ex H6 (upd (upd H7 p (.lst [.int 8, .int 12, .int 8, .int 4])) q (.lst [.int 8, .int 12, .int 8, .int 4])) := (e7.trans (Ex.refl.new hp)).trans eq
    generalize upd (upd H7 p (.lst [.int 8, .int 12, .int 8, .int 4])) q (.lst [.int 8, .int 12, .int 8, .int 4]) = H8 at kq kp x7 ⊢
    refine ne_ints (l := [8, 12, 8, 4]) kp kq ?_ (by decide) (.cons (.int _) (.cons (.int _) (.cons (.int _) (.cons (.int _) .nil))))
    simp only [Bool.false_eq_true, if_false]
    refine not_ (call_ (cva_ rfl (cva_ rfl (nil_ (nil_ ⟨rfl, rfl, ?_⟩)))))
    refine s_refused (n := n) hx hk (b6.ex x7) (by omega) fun H9 b9 f9 => ?_
    simp only [oTru, Bool.not_true, Bool.false_eq_true, if_false]
    refine hB _ (next_ (hR _ _ ⟨⟨_, _, _, _, _, _, _, _, rfl⟩, ?_⟩))
    have g2 := fr_at f3 ab ha2
    have g3 := fr_at f4 ab g2
    have g4 := fr_at f5 ab g3
    have g5 := fr_at f6 ab g4
    exact fr_at f9 ab (x7 _ _ g5)
  rintro k σ H7 hk2 ⟨⟨v5, v8, rfl⟩, e7⟩ R2 hR2
  refine ⟨hk2, ?_⟩
  intro x H7' hy2
  obtain ⟨rfl, rfl⟩ := itr_yld hy2
  simp only [gName, List.set_cons_zero, List.set_cons_succ]
  refine seq_ fun N7 h7 => ifS_ fun A B hA hB => or_ ?_
  refine ne_repr (K := K) (n := n + 6) (i := plF key.cps.toList) pl_nat (fun H1 P e q => call_ (cva_ rfl (nil_ (nil_ ⟨rfl, rfl, s_place_of (n := n + 3) hk q⟩)))) (fun H1 P e q => call_ (cva_ rfl (nil_ (nil_ ⟨rfl, rfl, s_spot (n := n + 5) hk q⟩)))) fun H8 e8 => ?_
  simp only [Bool.false_eq_true, if_false]
  refine ne_repr (K := K) (n := n + 6) (i := markF tx) mark_nat (fun H1 P e q => call_ (cva_ rfl (nil_ (nil_ ⟨rfl, rfl, s_mark_of (n := n + 4) ht (okTx_sc ht) q⟩)))) (fun H1 P e q => call_ (cva_ rfl (nil_ (nil_ ⟨rfl, rfl, s_lmark (n := n + 5) ht q⟩)))) fun H9 e9 => ?_
  simp only [Bool.false_eq_true, if_false]
  refine hB _ (next_ (h7 _ _ (seq_ fun N8 h8 => .inl ?_)))
  simp only [cFor, cRng1]
  refine cons_ (const_ (nil_ ⟨by decide, ?_⟩))
  refine lp_inv (n := 8) (fun i σ H' => (∃ v8, σ = [some (.ref a), some (.int (j : Nat)), some (.ref b), some (.int (at_ : Nat)), some (.str (nearF tx at_ c)), some (.int (0 + (k : Nat))), some (.str key), some (.str tx), v8]) ∧ Ex H9 H') ?_ ?_ ⟨⟨_, rfl⟩, Ex.refl⟩
  · rintro σ H10 ⟨⟨v8, rfl⟩, e10⟩
    refine ⟨Nat.le_refl _, h8 _ _ ?_⟩
    refine ifS_ fun A B hA hB => and_ ?_
    refine test_ (op_ (cb_ (cva_ rfl (nil_ ?_))))
    have ln : (nearF tx at_ c).length ≤ 200 := by
      unfold nearF
      rw [lp, lp]; omega
    rw [len_str]
    refine ⟨Nat.le_of_lt (small1000 (by omega)), cb_ (cva_ rfl (nil_ ?_))⟩
    rw [len_str]
    refine ⟨Nat.le_of_lt (small1000 (by omega)), eq_scal rfl rfl rfl ?_⟩
    by_cases q : (nearF tx at_ c).length = tx.length
    · rw [q, decide_eq_true rfl]
      simp only [if_true]
      have ia := near_len q hat
      have ok := near_ok ht hc ia
      refine test_ (op_ (op_ (call_ (cva_ rfl (nil_ (nil_ ⟨rfl, rfl, ?_⟩))))))
      refine s_mark_of (n := n + 4) ok (okTx_sc ok) fun H11 e11 => call_ (cva_ rfl (nil_ (nil_ ⟨rfl, rfl, ?_⟩)))
      refine s_mark_of (n := n + 4) ht (okTx_sc ht) fun H12 e12 => ?_
      refine eq_scal rfl rfl rfl (op_ (var_ rfl (var_ rfl ?_)))
      refine eq_scal rfl rfl rfl (ne_scal rfl rfl rfl ?_)
      rw [mark_unlike ia (near_set ia) ht hc, decide_eq_true rfl]
      simp only [Bool.not_true, Bool.false_eq_true, if_false]
      exact hB _ (next_ (hR2 _ _ ⟨⟨_, _, rfl⟩, e7.trans (e8.trans (e9.trans (e10.trans (e11.trans e12))))⟩))
    · rw [decide_eq_false (fun z => q (by have := V.int.inj z; omega))]
      simp only [Bool.false_eq_true, if_false]
      exact hB _ (next_ (hR2 _ _ ⟨⟨_, _, rfl⟩, e7.trans (e8.trans (e9.trans e10))⟩))
  rintro i σ H10 hi ⟨⟨v8, rfl⟩, e10⟩ R3 hR3
  refine ⟨hi, ?_⟩
  intro x H10' hy3
  obtain ⟨rfl, rfl⟩ := itr_yld hy3
  rw [show (0 : Int) + (i : Nat) = ((i : Nat) : Int) from by omega]
  simp only [gName, List.set_cons_zero, List.set_cons_succ]
  refine ifS_ fun A B hA hB => ?_
  refine ne_repr (K := K) (n := n + 6) (i := (plF key.cps.toList + 32 * ((i : Int) + 1)) % 256) (by omega) (fun H1 P e q => call_ (cva_ rfl (cva_ rfl (nil_ (nil_ ⟨rfl, rfl, s_piece_place (n := n + 2) hk hi q⟩))))) (fun H1 P e q => ?_) fun H8 e8 => ?_
  · refine op_ (op_ (op_ (call_ (cva_ rfl (nil_ (nil_ ⟨rfl, rfl, s_spot (n := n + 5) hk fun H2 e2 => const_ ?_⟩))))))
    simp only [oAdd]
    refine op_ (const_ (var_ rfl ?_))
    simp only [oMul]
    refine ⟨cmul_of (by decide) (by omega), const_ ⟨by decide, ?_⟩⟩
    have z := q H2 e2
    rw [show (plF key.cps.toList + 32 * ((i : Int) + 1)) % 256 = (plF key.cps.toList + 32 + 32 * (i : Int)) % 256 by omega] at z
    exact z
  · simp only [Bool.false_eq_true, if_false]
    exact hB _ (next_ (hR3 _ _ ⟨⟨_, rfl⟩, e10.trans e8⟩))
theorem law_ok : LawY y 40 12 := by
  intro K hex H a ns hl hO hT ha
  obtain ⟨o, ha⟩ := ha
  exact s_law (n := 5) (hx_of hex) ha hl fun H' => rfl
end
end WR.L

set_option maxHeartbeats 0
namespace WR.L
open PySem PySem.Spec PyProof.Rows L2
theorem yok : SyOk y where
  sc := by decide +kernel
  cps := List.forall_mem_cons.mpr ⟨⟨d_is_whole, rfl, rfl, kb1⟩, List.forall_mem_cons.mpr ⟨⟨d_is_name, rfl, rfl, kb2⟩, List.forall_mem_cons.mpr ⟨⟨d_is_text, rfl, rfl, kb3⟩, List.forall_mem_cons.mpr ⟨⟨d_need_name, rfl, rfl, kb4⟩, List.forall_mem_cons.mpr ⟨⟨d_place_of, rfl, rfl, kb5⟩, List.forall_mem_cons.mpr ⟨⟨d_piece_place, rfl, rfl, kb6⟩, List.forall_mem_cons.mpr ⟨⟨d_mark_of, rfl, rfl, kb7⟩, List.forall_mem_cons.mpr ⟨⟨d__law_cell, rfl, rfl, kb8⟩, List.forall_mem_cons.mpr ⟨⟨d__law_bag, rfl, rfl, kb9⟩, List.forall_mem_cons.mpr ⟨⟨d__law_take, rfl, rfl, kb10⟩, List.forall_mem_cons.mpr ⟨⟨d__law_very, rfl, rfl, kb11⟩, List.forall_mem_cons.mpr ⟨⟨d__law_key, rfl, rfl, kb12⟩, List.forall_mem_cons.mpr ⟨⟨d__law_text, rfl, rfl, kb13⟩, List.forall_mem_cons.mpr ⟨⟨d__law_spot, rfl, rfl, kb14⟩, List.forall_mem_cons.mpr ⟨⟨d__law_mark, rfl, rfl, kb15⟩, List.forall_mem_cons.mpr ⟨⟨d__law_kind, rfl, rfl, kb16⟩, List.forall_mem_cons.mpr ⟨⟨d__law_told, rfl, rfl, kb17⟩, List.forall_mem_cons.mpr ⟨⟨d__law_refused_right, rfl, rfl, kb18⟩, List.forall_mem_cons.mpr ⟨⟨d_law, rfl, rfl, kb19⟩, fun c h => nomatch h⟩⟩⟩⟩⟩⟩⟩⟩⟩⟩⟩⟩⟩⟩⟩⟩⟩⟩⟩
  cms := fun c h => nomatch h
  cks := fun c h => nomatch h
  ats := by decide +kernel
  nes := by decide +kernel
  hcs := List.forall_mem_cons.mpr ⟨⟨by decide +kernel, d__law_kind_h, rfl, rfl, rfl, kb16h⟩, fun c h => nomatch h⟩
  xcs := List.forall_mem_cons.mpr ⟨⟨rfl, rfl, rfl, by decide +kernel, by kernel_rfl, by decide +kernel, by decide +kernel, by decide +kernel, fun _ _ _ _ _ _ us hl => match us, hl with | [_, _], _ => rfl⟩, List.forall_mem_cons.mpr ⟨⟨rfl, rfl, rfl, by decide +kernel, by kernel_rfl, by decide +kernel, by decide +kernel, by decide +kernel, fun _ _ _ _ _ _ us hl => match us, hl with | [_, _], _ => rfl⟩, List.forall_mem_cons.mpr ⟨⟨rfl, rfl, rfl, by decide +kernel, by kernel_rfl, by decide +kernel, by decide +kernel, by decide +kernel, fun _ _ _ _ _ _ us hl => match us, hl with | [_, _], _ => rfl⟩, fun c h => nomatch h⟩⟩⟩
abbrev R : PySem.W.OpenRow := PySem.W.OpenLaw.row PySem.Challenge.rw_peersmeet_k04_places_and_marks_told
theorem run (w : World) : HandSHeadRun.RunEq R (PySem.W.view R.prog [38]) (hkY y) (obY y) 9000 ("FIRST_HASH" :: "HASH_TIMES" :: "LETTERS" :: "MARK_PRIME" :: "MOST_COPIES" :: "MOST_KEYS" :: "MOST_PEERS" :: "MOST_PIECES" :: "MOST_SIGNS" :: "NoName" :: "NoPiece" :: "NoText" :: "PER_CENT" :: "PIECE_STEP" :: "PeerError" :: "RING" :: "_law_any" :: "_law_bag" :: "_law_cell" :: "_law_key" :: "_law_kind" :: "_law_mark" :: "_law_refused_right" :: "_law_spot" :: "_law_take" :: "_law_text" :: "_law_told" :: "_law_very" :: "is_name" :: "is_text" :: "is_whole" :: "mark_of" :: "need_name" :: "piece_place" :: "place_of" :: []) w := by
  intro os
  kernel_rfl
end WR.L
open PySem PySem.W PySem.Calls PyProof.Rows
theorem PySem.Challenge.cw_peersmeet_k04_places_and_marks_told_holds : PySem.Challenge.rw_peersmeet_k04_places_and_marks_told.Holds := by
  w_on; o_law
  refine HandSHeadRun.head_any (r := OpenLaw.row PySem.Challenge.rw_peersmeet_k04_places_and_marks_told) (q := view (OpenLaw.row PySem.Challenge.rw_peersmeet_k04_places_and_marks_told).prog [38]) (H := WR.hkY WR.L.y) (ob := WR.obY WR.L.y) (M := 9000) (loose := ("FIRST_HASH" :: "HASH_TIMES" :: "LETTERS" :: "MARK_PRIME" :: "MOST_COPIES" :: "MOST_KEYS" :: "MOST_PEERS" :: "MOST_PIECES" :: "MOST_SIGNS" :: "NoName" :: "NoPiece" :: "NoText" :: "PER_CENT" :: "PIECE_STEP" :: "PeerError" :: "RING" :: "_law_any" :: "_law_bag" :: "_law_cell" :: "_law_key" :: "_law_kind" :: "_law_mark" :: "_law_refused_right" :: "_law_spot" :: "_law_take" :: "_law_text" :: "_law_told" :: "_law_very" :: "is_name" :: "is_text" :: "is_whole" :: "mark_of" :: "need_name" :: "piece_place" :: "place_of" :: [])) (d := HandSHeadRun.topDef (OpenLaw.row PySem.Challenge.rw_peersmeet_k04_places_and_marks_told).prog 38) (kwd := []) (WR.obY_eq WR.L.y)
    (by kernel_rfl) (fun s => by kernel_rfl) WR.L.run (by kernel_rfl) (by kernel_rfl) (by kernel_rfl) (by rfl) (by first | assumption | decide +kernel) (by decide +kernel) ⟨rfl, rfl, rfl, rfl, rfl, by decide +kernel⟩ ?hw ?hc
  case hw => w_witness2
  case hc => exact WR.walkY (l := PySem.Challenge.rw_peersmeet_k04_places_and_marks_told) WR.L.y 40 12 WR.L.d_law WR.L.yok (by decide +kernel) rfl rfl rfl rfl ⟨_, List.mem_of_getElem? (i := 18) rfl, rfl⟩ (fun _ _ _ _ _ _ us hl => match us, hl with | [_], _ => rfl) rfl (by kernel_rfl) (by kernel_rfl) ⟨rfl, by decide, by decide⟩ WR.L.law_ok

